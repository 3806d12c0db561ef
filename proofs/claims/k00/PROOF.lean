import PyProof.Rows.All
import Wide.All
import OpenK.AllK
import Wide.FinOn
import HandS.ForMost
import HandS.ForExc
import HandS.CallSlots
import HandS.IsInst
import HandS.HeadHook2
import HandS.SetKeys
import HandS.ExcInit
import HandS.ExcValue
import HandS.Flow
import HandS.TupAny
import HandS.Defaults
import HandS.Iter
import HandS.Style
import HandS.Wide
import HandS.WideBits
import HandS.TupMul
import HandS.Text
import HandS.SetFor
import PyProof.SeqRoads2
import HandS.Comp
import HandS.Dict
import HandS.WordsDict
import PyProof.DictUpdate
import HandS.DictComp
import HandS.SetBool
import HandS.More
import HandS.ListItems
import KE.KDictList
import HandS.Zip
import HandS.Rev
import HandS.SortOrd
import HandS.ExcOwn
import PyProof.TupleOfSeq
import PyProof.Rows.SortKeyStr
import KE.KSortTupAny
import HandS.TryOnly
import HandS.TryMany
import HandS.RaiseMore
import HandS.HeadHook1
import PyProof.ExcBaseAll.ValueError
import KE.GoesZip
import KE.GoesMore
import PyProof.ListStr
import PyProof.TupleOfStr
import HandS.WordsExc
import HandS.HeadEnd
import PyProof.ReprRoads
import PyProof.CallFns
import HandS.Spec
import KE.KExcIs
import HandS.ExcField
import KE.KExcInit
import PyProof.ExcBaseAll.OverflowError
import PyProof.ExcBaseAll.IndexError
import PyProof.ExcBaseAll.LookupError
import PyProof.ExcBaseAll.ArithmeticError
import PyProof.ExcBaseAll.RuntimeError
import HandS.Star
import PyProof.FactsAll.list_3
import HandS.Head0
import HandS.Head1
import HandS.Head2
import PySem.Challenge.RW_mustlook_k00_errors

set_option Elab.async false
set_option linter.all false
set_option maxRecDepth 100000
set_option autoImplicit false
namespace DL
open PySem PySem.Spec PyProof.Rows L2

/-- data: what a value is, without the heap -/
inductive D where
  | non | bl (b : Bool) | int (i : Int) | str (x : Str)
  | tup (xs : List D) | lst (xs : List D)
  /-- a list that is only read -/
  | rol (xs : List D)
  | dic (kvs : List (Key × D))
  | ins (c : Str) (fs : List (Str × D))
  | cls (c : Str) | ty (n : String)
  /-- a set of ints and texts that is only read: its keys, each once -/
  | set (ks : List Key)
  /-- an exception object that was not raised: its own class, its fields -/
  | exv (c : Str) (fs : List (Str × D))

/-- a value of a frame: data, or a mutable cell by its number -/
inductive W where
  | d (x : D) | r (i : Nat)
inductive Cell where
  | dead | lst (xs : List D) | dic (kvs : List (Key × D)) | ins (c : Str) (fs : List (Str × D))
abbrev Store := List Cell
abbrev Env := List (Option W)
/-- an exception: its class, what it keeps -/
structure XD where
  cls : Str
  fs : List (Str × D)
inductive Out (α : Type) where
  | ok (a : α) (M : Store) | exc (x : XD) (M : Store)
abbrev EF := Env → Store → Option (Out W)
abbrev TF := Env → Store → Option (Out Bool)
abbrev AF := Env → Store → Option (Out (List W))
inductive SO where
  | nx (Γ : Env) (M : Store) | rt (w : W) (M : Store) | bk (Γ : Env) (M : Store) | ct (Γ : Env) (M : Store) | ex (x : XD) (Γ : Env) (M : Store)
abbrev SF := Env → Store → Option SO

/-! ### representation -/
/-- the program and the world that all is said of -/
class PWd where
  P : Program
  w : World
variable [PWd]
mutual
inductive Rep (K : PySem.W.Frag) (G : Hp) : V → D → Prop
  | non : Rep K G .non .non
  | bl (b : Bool) : Rep K G (.bl b) (.bl b)
  | int (i : Int) : Rep K G (.int i) (.int i)
  | str (x : Str) : Rep K G (.str x) (.str x)
  | lst {a : Addr} {vs : List V} {ds : List D} : G a = some (.lst vs) → RepL K G vs ds → Rep K G (.ref a) (.lst ds)
  | rol {a : Addr} {vs : List V} {ds : List D} : SqL K G a vs → RepL K G vs ds → Rep K G (.ref a) (.rol ds)
  | tup {a : Addr} {vs : List V} {ds : List D} : SqT K G a vs → RepL K G vs ds → Rep K G (.ref a) (.tup ds)
  | dic {a : Addr} {o : Obj} {kvs : List (Key × V)} {ds : List (Key × D)} : G a = some (.frz o (.dK kvs)) → RepP K G kvs ds → Rep K G (.ref a) (.dic ds)
  | ins {a dx : Addr} {c : Str} {fs : List (Str × V)} {ds : List (Str × D)} : G a = some (.ins (He.ga K c) dx fs) → RepF K G fs ds → Rep K G (.ref a) (.ins c ds)
  | cls (c : Str) : Rep K G (.ref (He.ga K c)) (.cls c)
  | ty (n : String) : Rep K G (.ty n) (.ty n)
  | set {a : Addr} {ks : List Key} : G a = some (SetK PWd.P PWd.w a (fun k => ks.any fun j => decide (j = k)) ks.length) → Rep K G (.ref a) (.set ks)
  | exn {a : Addr} {c : Str} : G a = some (ExO (.ref (He.ga K c)) a) → Rep K G (.ref a) (.exv c [])
  | exd {a dx : Addr} {c : Str} {fs : List (Str × V)} {ds : List (Str × D)} : G a = some (exo a (He.ga K c) (some dx)) → G dx = some (exd dx fs) → RepF K G fs ds → Rep K G (.ref a) (.exv c ds)
inductive RepL (K : PySem.W.Frag) (G : Hp) : List V → List D → Prop
  | nil : RepL K G [] []
  | cons {v : V} {vs : List V} {d : D} {ds : List D} : Rep K G v d → RepL K G vs ds → RepL K G (v :: vs) (d :: ds)
inductive RepP (K : PySem.W.Frag) (G : Hp) : List (Key × V) → List (Key × D) → Prop
  | nil : RepP K G [] []
  | cons {k : Key} {v : V} {vs : List (Key × V)} {d : D} {ds : List (Key × D)} : Rep K G v d → RepP K G vs ds → RepP K G ((k, v) :: vs) ((k, d) :: ds)
inductive RepF (K : PySem.W.Frag) (G : Hp) : List (Str × V) → List (Str × D) → Prop
  | nil : RepF K G [] []
  | cons {k : Str} {v : V} {vs : List (Str × V)} {d : D} {ds : List (Str × D)} : Rep K G v d → RepF K G vs ds → RepF K G ((k, v) :: vs) ((k, d) :: ds)
end
variable {K : PySem.W.Frag} {G G' H H' : Hp}

theorem Same.seqT {a : Addr} {xs : List V} (e : Same G G') (h : SqT K G a xs) : SqT K G' a xs := by
  rcases h with (h | ⟨o, h⟩) | h
  · exact .inl (.inl (e _ _ h))
  · exact .inl (.inr ⟨o, e _ _ h⟩)
  · exact .inr h

mutual
theorem Rep.mono (e : Same G G') : ∀ {v : V} {d : D}, Rep K G v d → Rep K G' v d
  | _, _, .non => .non
  | _, _, .bl b => .bl b
  | _, _, .int i => .int i
  | _, _, .str x => .str x
  | _, _, .lst h r => .lst (e _ _ h) (RepL.mono e r)
  | _, _, .rol h r => .rol (e.seq h) (RepL.mono e r)
  | _, _, .tup h r => .tup (Same.seqT e h) (RepL.mono e r)
  | _, _, .dic h r => .dic (e _ _ h) (RepP.mono e r)
  | _, _, .ins h r => .ins (e _ _ h) (RepF.mono e r)
  | _, _, .cls c => .cls c
  | _, _, .ty n => .ty n
  | _, _, .set h => .set (e _ _ h)
  | _, _, .exn h => .exn (e _ _ h)
  | _, _, .exd h1 h2 r => .exd (e _ _ h1) (e _ _ h2) (RepF.mono e r)
theorem RepL.mono (e : Same G G') : ∀ {v : List V} {d : List D}, RepL K G v d → RepL K G' v d
  | _, _, .nil => .nil
  | _, _, .cons r t => .cons (Rep.mono e r) (RepL.mono e t)
theorem RepP.mono (e : Same G G') : ∀ {v : List (Key × V)} {d : List (Key × D)}, RepP K G v d → RepP K G' v d
  | _, _, .nil => .nil
  | _, _, .cons r t => .cons (Rep.mono e r) (RepP.mono e t)
theorem RepF.mono (e : Same G G') : ∀ {v : List (Str × V)} {d : List (Str × D)}, RepF K G v d → RepF K G' v d
  | _, _, .nil => .nil
  | _, _, .cons r t => .cons (Rep.mono e r) (RepF.mono e t)
end

/-- what stands at a cell -/
inductive CellOk (K : PySem.W.Frag) (G : Hp) : Option HO → Cell → Prop
  | dead {o : Option HO} : CellOk K G o .dead
  | lst {vs : List V} {ds : List D} : RepL K G vs ds → CellOk K G (some (.lst vs)) (.lst ds)
  | dic {vs : List (Key × V)} {ds : List (Key × D)} : RepP K G vs ds → CellOk K G (some (.dK vs)) (.dic ds)
  | ins {dx : Addr} {c : Str} {vs : List (Str × V)} {ds : List (Str × D)} : RepF K G vs ds → CellOk K G (some (.ins (He.ga K c) dx vs)) (.ins c ds)
theorem CellOk.mono (e : Same G G') {o : Option HO} {c : Cell} (h : CellOk K G o c) : CellOk K G' o c := by
  cases h with
  | dead => exact .dead
  | lst r => exact .lst (r.mono e)
  | dic r => exact .dic (r.mono e)
  | ins r => exact .ins (r.mono e)

inductive RW (K : PySem.W.Frag) (ι : List Addr) (G : Hp) : V → W → Prop
  | d {v : V} {x : D} : Rep K G v x → RW K ι G v (.d x)
  | r {a : Addr} {i : Nat} : ι[i]? = some a → RW K ι G (.ref a) (.r i)
theorem RW.mono {ι l : List Addr} (e : Same G G') {v : V} {w : W} (h : RW K ι G v w) : RW K (ι ++ l) G' v w := by
  cases h with
  | d r => exact .d (r.mono e)
  | r h => exact .r (by rw [List.getElem?_append_left (List.getElem?_eq_some_iff.mp h).1]; exact h)
abbrev RWs (K : PySem.W.Frag) (ι : List Addr) (G : Hp) : List V → List W → Prop := Paired (RW K ι G)
theorem RWs.mono {ι l : List Addr} (e : Same G G') : ∀ {vs : List V} {ws : List W}, RWs K ι G vs ws → RWs K (ι ++ l) G' vs ws
  | _, _, .nil => .nil
  | _, _, .cons r t => .cons (r.mono e) (RWs.mono e t)

/-- the store over the heap: Z what is hidden (the callers' cells), ι the cells' places, G what stands still -/
structure CRel (K : PySem.W.Frag) (Z : Addr → Prop) (ι : List Addr) (M : Store) (G H : Hp) : Prop where
  ln : ι.length = M.length
  nd : ι.Nodup
  dj : ∀ a ∈ ι, ¬ Z a
  sub : Same G H
  zf : ∀ a, Z a → G a = none
  zh : ∀ a, Z a → H a ≠ none
  ch : ∀ a ∈ ι, H a ≠ none
  cf : ∀ (i : Nat) (a : Addr), ι[i]? = some a → M[i]? ≠ some Cell.dead → G a = none
  ct : ∀ (i : Nat) (a : Addr) (c : Cell), ι[i]? = some a → M[i]? = some c → CellOk K G (H a) c
  df : ∀ (i : Nat) (a : Addr), ι[i]? = some a → M[i]? = some Cell.dead → G a ≠ none
/-- .. and a frame's slots -/
structure SR (K : PySem.W.Frag) (Z : Addr → Prop) (ι : List Addr) (M : Store) (Γ : Env) (σ : L2.St) (G H : Hp) : Prop where
  cr : CRel K Z ι M G H
  sl : ∀ (i : Nat) (w : W), Γ[i]? = some (some w) → ∃ v, σ[i]? = some (some v) ∧ RW K ι G v w
  lg : Γ.length = σ.length
/-- from a state to a later one -/
structure Ext (Z : Addr → Prop) (ι : List Addr) (G H : Hp) (ι' : List Addr) (G' H' : Hp) : Prop where
  pre : ∃ l, ι' = ι ++ l
  sm : Same G G'
  zs : ∀ a, Z a → H' a = H a
variable {Z : Addr → Prop} {ι ι' ι'' : List Addr} {M M' : Store} {Γ Γ' : Env} {σ σ' : L2.St} {G'' H'' : Hp}
theorem Ext.refl : Ext Z ι G H ι G H := ⟨⟨[], by simp⟩, Same.refl _, fun _ _ => rfl⟩
theorem Ext.trans (a : Ext Z ι G H ι' G' H') (b : Ext Z ι' G' H' ι'' G'' H'') : Ext Z ι G H ι'' G'' H'' := by
  obtain ⟨l, rfl⟩ := a.pre
  obtain ⟨l', rfl⟩ := b.pre
  exact ⟨⟨l ++ l', by simp⟩, a.sm.trans b.sm, fun c h => (b.zs c h).trans (a.zs c h)⟩
theorem Ext.rw (e : Ext Z ι G H ι' G' H') {v : V} {w : W} (h : RW K ι G v w) : RW K ι' G' v w := by
  obtain ⟨l, rfl⟩ := e.pre
  exact h.mono e.sm
theorem Ext.rws (e : Ext Z ι G H ι' G' H') {v : List V} {w : List W} (h : RWs K ι G v w) : RWs K ι' G' v w := by
  obtain ⟨l, rfl⟩ := e.pre
  exact RWs.mono e.sm h
/-- the slots stay, the store is new -/
theorem SR.at (s : SR K Z ι M Γ σ G H) (e : Ext Z ι G H ι' G' H') (c : CRel K Z ι' M' G' H') : SR K Z ι' M' Γ σ G' H' :=
  ⟨c, fun i w h => let ⟨v, a, b⟩ := s.sl i w h; ⟨v, a, e.rw b⟩, s.lg⟩
theorem SR.set (s : SR K Z ι M Γ σ G H) (i : Nat) {v : V} {w : W} (r : RW K ι G v w) : SR K Z ι M (Γ.set i (some w)) (σ.set i (some v)) G H := by
  refine ⟨s.cr, fun j u h => ?_, by simp [s.lg]⟩
  by_cases hj : i = j
  · subst hj
    by_cases hl : i < Γ.length
    · rw [List.getElem?_set_self hl] at h
      cases h
      exact ⟨v, by rw [List.getElem?_set_self (by rw [← s.lg]; exact hl)], r⟩
    · rw [List.getElem?_eq_none (by simpa using hl)] at h
      cases h
  · rw [List.getElem?_set_ne hj] at h
    obtain ⟨v', a, b⟩ := s.sl j u h
    exact ⟨v', by rw [List.getElem?_set_ne hj]; exact a, b⟩
theorem SR.unset (s : SR K Z ι M Γ σ G H) (i : Nat) : SR K Z ι M (Γ.set i none) (σ.set i none) G H := by
  refine ⟨s.cr, fun j u h => ?_, by simp [s.lg]⟩
  by_cases hj : i = j
  · subst hj
    by_cases hl : i < Γ.length
    · rw [List.getElem?_set_self hl] at h
      cases h
    · rw [List.getElem?_eq_none (by simpa using hl)] at h
      cases h
  · rw [List.getElem?_set_ne hj] at h
    obtain ⟨v', a, b⟩ := s.sl j u h
    exact ⟨v', by rw [List.getElem?_set_ne hj]; exact a, b⟩
theorem CRel.stay (c : CRel K Z ι M G H) (e : Same H H') (g : Same G G') (sub : Same G' H') (zf : ∀ a, Z a → G' a = none) (cf : ∀ (i : Nat) (a : Addr), ι[i]? = some a → M[i]? ≠ some Cell.dead → G' a = none) : CRel K Z ι M G' H' := by
  have dm : ∀ a, H a ≠ none → H' a ≠ none := fun a h z => by
    cases q : H a with
    | none => exact h q
    | some o => rw [e a o q] at z; cases z
  refine ⟨c.ln, c.nd, c.dj, sub, zf, fun a h => dm a (c.zh a h), fun a h => dm a (c.ch a h), cf, fun i a x h1 h2 => ?_, fun i a h1 h2 z => ?_⟩
  · have q := c.ct i a x h1 h2
    cases hx : H a with
    | none => rw [hx] at q; cases q; exact .dead
    | some o => rw [hx] at q; rw [e a o hx]; exact q.mono g
  · obtain ⟨o, q⟩ := Option.ne_none_iff_exists'.mp (c.df i a h1 h2)
    rw [g a o q] at z
    cases z
/-- a new object p that stands still -/
theorem CRel.new (c : CRel K Z ι M G H) {p : Addr} (hp : H p = none) (o : HO) : CRel K Z ι M (upd G p o) (upd H p o) := by
  have gp : G p = none := Same.free c.sub hp
  refine c.stay (fun b u h => ?_) (fun b u h => ?_) (fun b u h => ?_) (fun a h => ?_) fun i a h1 h2 => ?_
  · rw [upd_ne (ne_of_none h hp)]; exact h
  · rw [upd_ne (ne_of_none h gp)]; exact h
  · by_cases e : b = p
    · subst e; rw [upd_same] at h ⊢; exact h
    · rw [upd_ne e] at h ⊢; exact c.sub _ _ h
  · rw [upd_ne (fun z => c.zh a h (by rw [z]; exact hp))]; exact c.zf a h
  · rw [upd_ne (fun z => c.ch a (List.mem_of_getElem? h1) (by rw [z]; exact hp))]; exact c.cf i a h1 h2
/-- a new object p, as a cell -/
theorem CRel.newCell (c : CRel K Z ι M G H) {p : Addr} (hp : H p = none) {o : HO} {x : Cell} (hx : CellOk K G (some o) x) (hxd : x ≠ .dead) : CRel K Z (ι ++ [p]) (M ++ [x]) G (upd H p o) := by
  have gp : G p = none := Same.free c.sub hp
  have nz : ∀ a, Z a → a ≠ p := fun a h z => c.zh a h (by rw [z]; exact hp)
  have ni : ∀ a ∈ ι, a ≠ p := fun a h z => c.ch a h (by rw [z]; exact hp)
  refine ⟨by simp [c.ln], ?_, fun a h => ?_, fun b u h => ?_, c.zf, fun a h => ?_, fun a h => ?_, fun i a h1 h2 => ?_, fun i a y h1 h2 => ?_, fun i a h1 h2 => ?_⟩
  · rw [List.nodup_append]
    exact ⟨c.nd, by simp, fun a h b hb => by rw [List.mem_singleton.mp hb]; exact ni a h⟩
  · rcases List.mem_append.mp h with h | h
    · exact c.dj a h
    · rw [List.mem_singleton.mp h]; exact fun z => nz _ z rfl
  · rw [upd_ne (ne_of_none h gp)]; exact c.sub _ _ h
  · rw [upd_ne (nz a h)]; exact c.zh a h
  · rcases List.mem_append.mp h with h | h
    · rw [upd_ne (ni a h)]; exact c.ch a h
    · rw [List.mem_singleton.mp h, upd_same]; exact fun z => nomatch z
  · by_cases hi : i < ι.length
    · rw [List.getElem?_append_left hi] at h1
      rw [List.getElem?_append_left (by rw [← c.ln]; exact hi)] at h2
      exact c.cf i a h1 h2
    · rw [List.getElem?_append_right (by omega)] at h1
      have e : a = p := by
        cases q : i - ι.length with
        | zero => rw [q] at h1; simpa using h1.symm
        | succ n => rw [q] at h1; simp at h1
      rw [e]; exact gp
  · by_cases hi : i < ι.length
    · rw [List.getElem?_append_left hi] at h1
      rw [List.getElem?_append_left (by rw [← c.ln]; exact hi)] at h2
      rw [upd_ne (ni a (List.mem_of_getElem? h1))]
      exact c.ct i a y h1 h2
    · rw [List.getElem?_append_right (by omega)] at h1
      rw [List.getElem?_append_right (by rw [← c.ln]; omega), ← c.ln] at h2
      cases q : i - ι.length with
      | zero =>
        rw [q] at h1 h2
        have e1 : p = a := by simpa using h1
        have e2 : x = y := by simpa using h2
        rw [← e1, ← e2, upd_same]
        exact hx
      | succ n => rw [q] at h1; simp at h1
  · by_cases hi : i < ι.length
    · rw [List.getElem?_append_left hi] at h1
      rw [List.getElem?_append_left (by rw [← c.ln]; exact hi)] at h2
      exact c.df i a h1 h2
    · rw [List.getElem?_append_right (by omega)] at h1
      rw [List.getElem?_append_right (by rw [← c.ln]; omega), ← c.ln] at h2
      cases q : i - ι.length with
      | zero =>
        rw [q] at h2
        exact absurd (by simpa using h2) hxd
      | succ n => rw [q] at h1; simp at h1
/-- a cell is written -/
theorem CRel.write (c : CRel K Z ι M G H) {i : Nat} {a : Addr} (hi : ι[i]? = some a) (hl : M[i]? ≠ some Cell.dead) {o : HO} {x : Cell} (hx : CellOk K G (some o) x) (hxd : x ≠ .dead) : CRel K Z ι (M.set i x) G (upd H a o) := by
  have ga : G a = none := c.cf i a hi hl
  have ha := c.ch a (List.mem_of_getElem? hi)
  have iL : i < ι.length := (List.getElem?_eq_some_iff.mp hi).1
  have other : ∀ (j : Nat) (b : Addr), ι[j]? = some b → j ≠ i → b ≠ a := fun j b hj hne z => by
    rw [z] at hj
    have h1 := List.getElem?_eq_some_iff.mp hj
    have h2 := List.getElem?_eq_some_iff.mp hi
    exact hne ((List.getElem_inj c.nd).mp (h1.2.trans h2.2.symm))
  refine ⟨by simp [c.ln], c.nd, c.dj, fun b u h => ?_, c.zf, fun b h => ?_, fun b h => ?_, fun j b h1 h2 => ?_, fun j b y h1 h2 => ?_, fun j b h1 h2 => ?_⟩
  · rw [upd_ne (ne_of_none h ga)]; exact c.sub _ _ h
  · by_cases e : b = a
    · rw [e, upd_same]; exact fun z => nomatch z
    · rw [upd_ne e]; exact c.zh b h
  · by_cases e : b = a
    · rw [e, upd_same]; exact fun z => nomatch z
    · rw [upd_ne e]; exact c.ch b h
  · by_cases e : j = i
    · rw [e, hi] at h1; cases h1; exact ga
    · rw [List.getElem?_set_ne (Ne.symm e)] at h2; exact c.cf j b h1 h2
  · by_cases e : j = i
    · subst e
      rw [hi] at h1; cases h1
      rw [List.getElem?_set_self (by rw [← c.ln]; exact iL)] at h2
      cases h2
      rw [upd_same]; exact hx
    · rw [List.getElem?_set_ne (Ne.symm e)] at h2
      rw [upd_ne (other j b h1 e)]
      exact c.ct j b y h1 h2
  · by_cases e : j = i
    · subst e
      rw [List.getElem?_set_self (by rw [← c.ln]; exact iL)] at h2
      exact absurd (Option.some.inj h2) hxd
    · rw [List.getElem?_set_ne (Ne.symm e)] at h2
      exact c.df j b h1 h2
/-- a cell is frozen: it is data from now on -/
theorem CRel.freeze (c : CRel K Z ι M G H) {i : Nat} {a : Addr} {o : HO} (hi : ι[i]? = some a) (ho : H a = some o) : CRel K Z ι (M.set i .dead) (upd G a o) H ∧ (M[i]? ≠ some Cell.dead → Same G (upd G a o)) := by
  have iL : i < ι.length := (List.getElem?_eq_some_iff.mp hi).1
  have other : ∀ (j : Nat) (b : Addr), ι[j]? = some b → j ≠ i → b ≠ a := fun j b hj hne z => by
    rw [z] at hj
    have h1 := List.getElem?_eq_some_iff.mp hj
    have h2 := List.getElem?_eq_some_iff.mp hi
    exact hne ((List.getElem_inj c.nd).mp (h1.2.trans h2.2.symm))
  have sm : Same G (upd G a o) := fun b u h => by
    by_cases e : b = a
    · subst e
      have q := c.sub _ _ h
      rw [ho] at q; cases q
      exact upd_same
    · rw [upd_ne e]; exact h
  refine ⟨⟨by simp [c.ln], c.nd, c.dj, fun b u h => ?_, fun b h => ?_, c.zh, c.ch, fun j b h1 h2 => ?_, fun j b y h1 h2 => ?_, fun j b h1 h2 => ?_⟩, fun _ => sm⟩
  · by_cases e : b = a
    · subst e; rw [upd_same] at h; cases h; exact ho
    · rw [upd_ne e] at h; exact c.sub _ _ h
  · rw [upd_ne (fun z => c.dj a (List.mem_of_getElem? hi) (by rw [← z]; exact h))]; exact c.zf b h
  · by_cases e : j = i
    · subst e
      rw [List.getElem?_set_self (by rw [← c.ln]; exact iL)] at h2
      exact absurd rfl h2
    · rw [List.getElem?_set_ne (Ne.symm e)] at h2
      rw [upd_ne (other j b h1 e)]
      exact c.cf j b h1 h2
  · by_cases e : j = i
    · subst e
      rw [List.getElem?_set_self (by rw [← c.ln]; exact iL)] at h2
      cases h2
      exact .dead
    · rw [List.getElem?_set_ne (Ne.symm e)] at h2
      exact (c.ct j b y h1 h2).mono sm
  · by_cases e : j = i
    · subst e
      rw [hi] at h1
      cases h1
      rw [upd_same]
      exact fun z => nomatch z
    · rw [List.getElem?_set_ne (Ne.symm e)] at h2
      rw [upd_ne (other j b h1 e)]
      exact c.df j b h1 h2
/-- a cell is frozen and locked -/
theorem CRel.freezeD (c : CRel K Z ι M G H) {i : Nat} {a : Addr} {u o : HO} (hi : ι[i]? = some a) (ho : H a = some u) (hl : M[i]? ≠ some Cell.dead) : CRel K Z ι (M.set i .dead) (upd G a o) (upd H a o) ∧ Same G (upd G a o) := by
  have iL : i < ι.length := (List.getElem?_eq_some_iff.mp hi).1
  have ga := c.cf i a hi hl
  have other : ∀ (j : Nat) (b : Addr), ι[j]? = some b → j ≠ i → b ≠ a := fun j b hj hne z => by
    rw [z] at hj
    have h1 := List.getElem?_eq_some_iff.mp hj
    have h2 := List.getElem?_eq_some_iff.mp hi
    exact hne ((List.getElem_inj c.nd).mp (h1.2.trans h2.2.symm))
  have sm : Same G (upd G a o) := fun b v h => by rw [upd_ne (ne_of_none h ga)]; exact h
  have dm : ∀ b, H b ≠ none → upd H a o b ≠ none := fun b h => by
    by_cases e : b = a
    · rw [e, upd_same]; exact fun z => nomatch z
    · rw [upd_ne e]; exact h
  refine ⟨⟨by simp [c.ln], c.nd, c.dj, fun b v h => ?_, fun b h => ?_, fun b h => dm b (c.zh b h), fun b h => dm b (c.ch b h), fun j b h1 h2 => ?_, fun j b y h1 h2 => ?_, fun j b h1 h2 => ?_⟩, sm⟩
  · by_cases e : b = a
    · subst e; rw [upd_same] at h ⊢; exact h
    · rw [upd_ne e] at h ⊢; exact c.sub _ _ h
  · rw [upd_ne (fun z => c.dj a (List.mem_of_getElem? hi) (by rw [← z]; exact h))]; exact c.zf b h
  · by_cases e : j = i
    · subst e
      rw [List.getElem?_set_self (by rw [← c.ln]; exact iL)] at h2
      exact absurd rfl h2
    · rw [List.getElem?_set_ne (Ne.symm e)] at h2
      rw [upd_ne (other j b h1 e)]
      exact c.cf j b h1 h2
  · by_cases e : j = i
    · subst e
      rw [List.getElem?_set_self (by rw [← c.ln]; exact iL)] at h2
      cases h2
      exact .dead
    · rw [List.getElem?_set_ne (Ne.symm e)] at h2
      rw [upd_ne (other j b h1 e)]
      exact (c.ct j b y h1 h2).mono sm
  · by_cases e : j = i
    · subst e
      rw [hi] at h1
      cases h1
      rw [upd_same]
      exact fun z => nomatch z
    · rw [List.getElem?_set_ne (Ne.symm e)] at h2
      rw [upd_ne (other j b h1 e)]
      exact c.df j b h1 h2
/-- the last cells are forgotten -/
theorem CRel.trim (c : CRel K Z ι M G H) (n : Nat) : CRel K Z (ι.take n) (M.take n) G H := by
  have sub : ∀ (i : Nat) (a : Addr), (ι.take n)[i]? = some a → ι[i]? = some a ∧ i < n := fun i a h => by
    rw [List.getElem?_take] at h
    split at h
    · exact ⟨h, by assumption⟩
    · cases h
  refine ⟨by simp [c.ln], c.nd.sublist (List.take_sublist _ _), fun a h => c.dj a (List.mem_of_mem_take h), c.sub, c.zf, c.zh, fun a h => c.ch a (List.mem_of_mem_take h), fun i a h1 h2 => ?_, fun i a y h1 h2 => ?_, fun i a h1 h2 => ?_⟩
  · obtain ⟨q, hn⟩ := sub i a h1
    rw [List.getElem?_take_of_lt hn] at h2
    exact c.cf i a q h2
  · obtain ⟨q, hn⟩ := sub i a h1
    rw [List.getElem?_take_of_lt hn] at h2
    exact c.ct i a y q h2
  · obtain ⟨q, hn⟩ := sub i a h1
    rw [List.getElem?_take_of_lt hn] at h2
    exact c.df i a q h2
end DL

set_option Elab.async false
set_option linter.all false
set_option maxRecDepth 100000
set_option autoImplicit false
namespace DL
open PySem PySem.Spec PyProof.Rows L2
variable [PWd]
variable {K : PySem.W.Frag} {G G' G'' H H' H'' : Hp} {Z : Addr → Prop} {ι ι' ι'' : List Addr} {M M' : Store} {Γ Γ' : Env} {σ σ' : L2.St}

/-! ### only new objects -/
structure Grow (G H G' H' : Hp) : Prop where
  h : Same H H'
  g : Same G G'
  sub : Same G' H'
  old : ∀ b o, H b = some o → G b = none → G' b = none
theorem Grow.refl (s : Same G H) : Grow G H G H := ⟨Same.refl _, Same.refl _, s, fun _ _ _ h => h⟩
theorem Grow.new (w : Grow G H G' H') {p : Addr} (hp : H' p = none) (o : HO) : Grow G H (upd G' p o) (upd H' p o) := by
  have gp : G' p = none := Same.free w.sub hp
  refine ⟨fun b u h => ?_, fun b u h => ?_, fun b u h => ?_, fun b u h q => ?_⟩
  · rw [upd_ne (ne_of_none (w.h _ _ h) hp)]; exact w.h _ _ h
  · rw [upd_ne (ne_of_none (w.g _ _ h) gp)]; exact w.g _ _ h
  · by_cases e : b = p
    · subst e; rw [upd_same] at h ⊢; exact h
    · rw [upd_ne e] at h ⊢; exact w.sub _ _ h
  · rw [upd_ne (ne_of_none (w.h _ _ h) hp)]; exact w.old _ _ h q
theorem Grow.one (s : Same G H) {p : Addr} (hp : H p = none) (o : HO) : Grow G H (upd G p o) (upd H p o) := (Grow.refl s).new hp o
theorem Grow.trans (a : Grow G H G' H') (b : Grow G' H' G'' H'') : Grow G H G'' H'' :=
  ⟨a.h.trans b.h, a.g.trans b.g, b.sub, fun c o h q => b.old c o (a.h c o h) (a.old c o h q)⟩
theorem CRel.grow (c : CRel K Z ι M G H) (w : Grow G H G' H') : CRel K Z ι M G' H' := by
  have some_of : ∀ a, H a ≠ none → ∃ o, H a = some o := fun a h => Option.ne_none_iff_exists'.mp h
  exact c.stay w.h w.g w.sub (fun a h => let ⟨o, q⟩ := some_of a (c.zh a h); w.old a o q (c.zf a h)) fun i a h1 h2 => let ⟨o, q⟩ := some_of a (c.ch a (List.mem_of_getElem? h1)); w.old a o q (c.cf i a h1 h2)
theorem CRel.growE (c : CRel K Z ι M G H) (w : Grow G H G' H') : Ext Z ι G H ι G' H' :=
  ⟨⟨[], by simp⟩, w.g, fun a h => by
    obtain ⟨o, q⟩ := Option.ne_none_iff_exists'.mp (c.zh a h)
    rw [q]; exact w.h _ _ q⟩

/-! ### what a value shows: data, or a cell as it stands -/
def rdC : Option Cell → Option D
  | some (.lst ds) => some (.lst ds)
  | some (.dic ds) => some (.dic ds)
  | some (.ins c ds) => some (.ins c ds)
  | _ => none
def rd (M : Store) : W → Option D
  | .d x => some x
  | .r i => rdC M[i]?
inductive RB (K : PySem.W.Frag) (G H : Hp) : V → D → Prop
  | rep {v : V} {x : D} : Rep K G v x → RB K G H v x
  | lst {a : Addr} {vs : List V} {ds : List D} : H a = some (.lst vs) → RepL K G vs ds → RB K G H (.ref a) (.lst ds)
  | dic {a : Addr} {vs : List (Key × V)} {ds : List (Key × D)} : H a = some (.dK vs) → RepP K G vs ds → RB K G H (.ref a) (.dic ds)
  | ins {a dx : Addr} {c : Str} {vs : List (Str × V)} {ds : List (Str × D)} : H a = some (.ins (He.ga K c) dx vs) → RepF K G vs ds → RB K G H (.ref a) (.ins c ds)
theorem CRel.rb (c : CRel K Z ι M G H) {v : V} {w : W} {x : D} (r : RW K ι G v w) (h : rd M w = some x) : RB K G H v x := by
  cases r with
  | d r => cases h; exact .rep r
  | @r a i hi =>
    have h : rdC M[i]? = some x := h
    cases q : M[i]? with
    | none => rw [q] at h; cases h
    | some y =>
      rw [q] at h
      have ok := c.ct i a y hi q
      cases y with
      | dead => cases h
      | lst ds =>
        cases h
        generalize ho : H a = o at ok
        cases ok with
        | lst r => exact .lst ho r
      | dic ds =>
        cases h
        generalize ho : H a = o at ok
        cases ok with
        | dic r => exact .dic ho r
      | ins cc ds =>
        cases h
        generalize ho : H a = o at ok
        cases ok with
        | ins r => exact .ins ho r
theorem RB.full (s : Same G H) {v : V} {x : D} (r : RB K G H v x) (hx : ∀ ds, x ≠ .dic ds) : Rep K H v x := by
  cases r with
  | rep r => exact r.mono s
  | lst h r => exact .lst h (r.mono s)
  | dic h r => exact absurd rfl (hx _)
  | ins h r => exact .ins h (r.mono s)
theorem RB.asL (s : Same G H) {v : V} {ds : List D} (r : RB K G H v (.lst ds)) : ∃ a vs, v = .ref a ∧ H a = some (.lst vs) ∧ RepL K G vs ds := by
  cases r with
  | rep r => cases r with
    | lst h r => exact ⟨_, _, rfl, s _ _ h, r⟩
  | lst h r => exact ⟨_, _, rfl, h, r⟩
theorem RB.asR (s : Same G H) {v : V} {ds : List D} (r : RB K G H v (.rol ds)) : ∃ a vs, v = .ref a ∧ SqL K H a vs ∧ RepL K G vs ds := by
  cases r with
  | rep r => cases r with
    | rol h r => exact ⟨_, _, rfl, s.seq h, r⟩
theorem RB.asT (s : Same G H) {v : V} {ds : List D} (r : RB K G H v (.tup ds)) : ∃ a vs, v = .ref a ∧ SqT K H a vs ∧ RepL K G vs ds := by
  cases r with
  | rep r => cases r with
    | tup h r => exact ⟨_, _, rfl, Same.seqT s h, r⟩
theorem RB.asP (s : Same G H) {v : V} {ds : List (Key × D)} (r : RB K G H v (.dic ds)) : ∃ a vs, v = .ref a ∧ Rd H a (.dK vs) ∧ RepP K G vs ds := by
  cases r with
  | rep r => cases r with
    | dic h r => exact ⟨_, _, rfl, .inr ⟨_, s _ _ h⟩, r⟩
  | dic h r => exact ⟨_, _, rfl, .inl h, r⟩
theorem RB.asF (s : Same G H) {v : V} {c : Str} {ds : List (Str × D)} (r : RB K G H v (.ins c ds)) : ∃ a dx vs, v = .ref a ∧ H a = some (.ins (He.ga K c) dx vs) ∧ RepF K G vs ds := by
  cases r with
  | rep r => cases r with
    | ins h r => exact ⟨_, _, _, rfl, s _ _ h, r⟩
  | ins h r => exact ⟨_, _, _, rfl, h, r⟩
theorem RB.int {v : V} {i : Int} (r : RB K G H v (.int i)) : v = .int i := by
  cases r with
  | rep r => cases r; rfl
theorem RB.str {v : V} {x : Str} (r : RB K G H v (.str x)) : v = .str x := by
  cases r with
  | rep r => cases r; rfl
theorem RB.bl {v : V} {x : Bool} (r : RB K G H v (.bl x)) : v = .bl x := by
  cases r with
  | rep r => cases r; rfl
theorem RB.non {v : V} (r : RB K G H v .non) : v = .non := by
  cases r with
  | rep r => cases r; rfl
theorem RepL.length {vs : List V} {ds : List D} : RepL K G vs ds → vs.length = ds.length := by
  intro r
  induction vs generalizing ds with
  | nil => cases r; rfl
  | cons v vs ih =>
    cases r with
    | cons _ t => simp [ih t]
theorem RepL.get {vs : List V} {ds : List D} (r : RepL K G vs ds) {i : Nat} {d : D} (h : ds[i]? = some d) : ∃ v, vs[i]? = some v ∧ Rep K G v d := by
  induction vs generalizing ds i with
  | nil => cases r; simp at h
  | cons v vs ih =>
    cases r with
    | cons a t =>
      cases i with
      | zero => simp at h; subst h; exact ⟨v, rfl, a⟩
      | succ i => simp at h; obtain ⟨u, h1, h2⟩ := ih t h; exact ⟨u, by simpa using h1, h2⟩
theorem RepL.append {vs us : List V} {ds es : List D} (a : RepL K G vs ds) (b : RepL K G us es) : RepL K G (vs ++ us) (ds ++ es) := by
  induction vs generalizing ds with
  | nil => cases a; exact b
  | cons v vs ih => cases a with
    | cons x t => exact .cons x (ih t)
theorem RepL.take {vs : List V} {ds : List D} (a : RepL K G vs ds) (n : Nat) : RepL K G (vs.take n) (ds.take n) := by
  induction vs generalizing ds n with
  | nil => cases a; simp; exact .nil
  | cons v vs ih => cases a with
    | cons x t => cases n with
      | zero => exact .nil
      | succ n => exact .cons x (ih t n)
theorem RepL.drop {vs : List V} {ds : List D} (a : RepL K G vs ds) (n : Nat) : RepL K G (vs.drop n) (ds.drop n) := by
  induction vs generalizing ds n with
  | nil => cases a; simp; exact .nil
  | cons v vs ih => cases a with
    | cons x t => cases n with
      | zero => exact .cons x t
      | succ n => exact ih t n
theorem RepL.set {vs : List V} {ds : List D} (a : RepL K G vs ds) (n : Nat) {v : V} {d : D} (r : Rep K G v d) : RepL K G (vs.set n v) (ds.set n d) := by
  induction vs generalizing ds n with
  | nil => cases a; exact .nil
  | cons v vs ih => cases a with
    | cons x t => cases n with
      | zero => exact .cons r t
      | succ n => exact .cons x (ih t n)

/-! ### results -/
/-- it holds a function as it stands -/
inductive Tag {α : Type} (k : α) : Type where
  | mk
def bnd {α β : Type} (x : Option (Out α)) (k : α → Store → Option (Out β)) (_ : Tag k := .mk) : Option (Out β) :=
  match x with
  | none => none
  | some (.ok a M) => k a M
  | some (.exc e M) => some (.exc e M)
theorem bnd_some {α β : Type} {x : Option (Out α)} {k : α → Store → Option (Out β)} {o : Out β} (h : bnd x k = some o) :
    (∃ a M, x = some (.ok a M) ∧ k a M = some o) ∨ ∃ e M, x = some (.exc e M) ∧ o = .exc e M := by
  cases x with
  | none => cases h
  | some y => cases y with
    | ok a M => exact .inl ⟨a, M, rfl, h⟩
    | exc e M => cases h; exact .inr ⟨e, M, rfl, rfl⟩
/-- how an exception lies -/
def XR (K : PySem.W.Frag) (G : Hp) (c : Value) (d : Option Addr) (x : XD) : Prop :=
  c = .ref (He.ga K x.cls) ∧ (x.fs = [] ∨ ∃ a fs, d = some a ∧ G a = some (.xd fs) ∧ RepF K G fs x.fs)
theorem RepF.mono' {vs : List (Str × V)} {ds : List (Str × D)} (e : Same G G') (r : RepF K G vs ds) : RepF K G' vs ds := r.mono e
theorem XR.mono {c : Value} {d : Option Addr} {x : XD} (e : Same G G') (r : XR K G c d x) : XR K G' c d x := by
  obtain ⟨h, r⟩ := r
  refine ⟨h, ?_⟩
  rcases r with r | ⟨a, fs, q, g, r⟩
  · exact .inl r
  · exact .inr ⟨a, fs, q, e _ _ g, r.mono e⟩

/-! ### the judgements -/
section
variable (X : Cx) (Wx : WX) (Z : Addr → Prop)
def XPost (ι : List Addr) (Γ : Env) (σ : L2.St) (G H : Hp) (x : XD) (M' : Store) : Prop :=
  ∀ ι' G' H' c d, SR X.K Z ι' M' Γ σ G' H' → Ext Z ι G H ι' G' H' → XR X.K G' c d x → Wx c d σ H'
def EPost (ι : List Addr) (Γ : Env) (σ : L2.St) (G H : Hp) (Q : VK) : Out W → Prop
  | .ok w M' => ∀ ι' G' H' v, SR X.K Z ι' M' Γ σ G' H' → Ext Z ι G H ι' G' H' → RW X.K ι' G' v w → Q v H'
  | .exc x M' => XPost X Wx Z ι Γ σ G H x M'
def TPost (ι : List Addr) (Γ : Env) (σ : L2.St) (G H : Hp) (Q : Bool → Hp → Prop) : Out Bool → Prop
  | .ok b M' => ∀ ι' G' H', SR X.K Z ι' M' Γ σ G' H' → Ext Z ι G H ι' G' H' → Q b H'
  | .exc x M' => XPost X Wx Z ι Γ σ G H x M'
def APost (ι : List Addr) (Γ : Env) (σ : L2.St) (G H : Hp) (Q : List V → Hp → Prop) : Out (List W) → Prop
  | .ok ws M' => ∀ ι' G' H' vs, SR X.K Z ι' M' Γ σ G' H' → Ext Z ι G H ι' G' H' → RWs X.K ι' G' vs ws → Q vs H'
  | .exc x M' => XPost X Wx Z ι Γ σ G H x M'
def SPost (ι : List Addr) (G H : Hp) (D : Ends) : SO → Prop
  | .nx Γ' M' => ∀ ι' G' H' σ', SR X.K Z ι' M' Γ' σ' G' H' → Ext Z ι G H ι' G' H' → D.nx σ' H'
  | .bk Γ' M' => ∀ ι' G' H' σ', SR X.K Z ι' M' Γ' σ' G' H' → Ext Z ι G H ι' G' H' → D.bk σ' H'
  | .ct Γ' M' => ∀ ι' G' H' σ', SR X.K Z ι' M' Γ' σ' G' H' → Ext Z ι G H ι' G' H' → D.ct σ' H'
  | .rt w M' => ∀ ι' G' H' v, CRel X.K Z ι' M' G' H' → Ext Z ι G H ι' G' H' → RW X.K ι' G' v w → D.rt v H'
  | .ex x Γ' M' => ∀ ι' G' H' σ' c d, SR X.K Z ι' M' Γ' σ' G' H' → Ext Z ι G H ι' G' H' → XR X.K G' c d x → Wx c d σ' H'
/-- a term does what a function says -/
def EOk (t : TE) (f : EF) : Prop := ∀ ι M Γ σ G H out Q, SR X.K Z ι M Γ σ G H → f Γ M = some out → EPost X Wx Z ι Γ σ G H Q out → t σ H Q
def TOk (t : TT) (f : TF) : Prop := ∀ ι M Γ σ G H out Q, SR X.K Z ι M Γ σ G H → f Γ M = some out → TPost X Wx Z ι Γ σ G H Q out → t σ H Q
def AOk (t : TA) (f : AF) : Prop := ∀ ι M Γ σ G H out Q, SR X.K Z ι M Γ σ G H → f Γ M = some out → APost X Wx Z ι Γ σ G H Q out → t σ H Q
def SOk (t : TS) (f : SF) : Prop := ∀ ι M Γ σ G H out D, SR X.K Z ι M Γ σ G H → f Γ M = some out → SPost X Wx Z ι G H D out → t D σ H
structure DE (e : Expr) (f : EF) : Prop where
  ex : ∃ t, PE X e t ∧ EOk X Wx Z t f
structure DT (e : Expr) (f : TF) : Prop where
  ex : ∃ t, PT X e t ∧ TOk X Wx Z t f
structure DW (e : Expr) (f : TF) : Prop where
  ex : ∃ t, PW X e t ∧ TOk X Wx Z t f
structure DA (es : List Expr) (f : AF) : Prop where
  ex : ∃ t, PA X es t ∧ AOk X Wx Z t f
  len : ∀ Γ M ws M', f Γ M = some (.ok ws M') → ws.length = es.length
structure DS (st : Stmt) (f : SF) : Prop where
  ex : ∃ t, PS X st t ∧ SOk X Wx Z t f
structure DSs (st : List Stmt) (f : SF) : Prop where
  ex : ∃ t, PSs X st t ∧ SOk X Wx Z t f
end
section
variable {X : Cx} {Wx : WX}
/-- behind a part: what is wanted of the whole -/
theorem EOk.then {t : TE} {f : EF} (h : EOk X Wx Z t f) {Q : VK} {β : Type} {k : W → Store → Option (Out β)} {out : Out β} (s : SR X.K Z ι M Γ σ G H) (e : bnd (f Γ M) k = some out)
    (hx : ∀ x M', out = .exc x M' → XPost X Wx Z ι Γ σ G H x M')
    (hq : ∀ w M1, k w M1 = some out → ∀ ι' G' H' v, SR X.K Z ι' M1 Γ σ G' H' → Ext Z ι G H ι' G' H' → RW X.K ι' G' v w → Q v H') : t σ H Q := by
  rcases bnd_some e with ⟨w, M1, e1, e2⟩ | ⟨x, M1, e1, e2⟩
  · exact h ι M Γ σ G H _ Q s e1 (hq w M1 e2)
  · exact h ι M Γ σ G H _ Q s e1 (hx x M1 e2)
theorem TOk.then {t : TT} {f : TF} (h : TOk X Wx Z t f) {Q : Bool → Hp → Prop} {β : Type} {k : Bool → Store → Option (Out β)} {out : Out β} (s : SR X.K Z ι M Γ σ G H) (e : bnd (f Γ M) k = some out)
    (hx : ∀ x M', out = .exc x M' → XPost X Wx Z ι Γ σ G H x M')
    (hq : ∀ w M1, k w M1 = some out → ∀ ι' G' H', SR X.K Z ι' M1 Γ σ G' H' → Ext Z ι G H ι' G' H' → Q w H') : t σ H Q := by
  rcases bnd_some e with ⟨w, M1, e1, e2⟩ | ⟨x, M1, e1, e2⟩
  · exact h ι M Γ σ G H _ Q s e1 (hq w M1 e2)
  · exact h ι M Γ σ G H _ Q s e1 (hx x M1 e2)
theorem AOk.then {t : TA} {f : AF} (h : AOk X Wx Z t f) {Q : List V → Hp → Prop} {β : Type} {k : List W → Store → Option (Out β)} {out : Out β} (s : SR X.K Z ι M Γ σ G H) (e : bnd (f Γ M) k = some out)
    (hx : ∀ x M', out = .exc x M' → XPost X Wx Z ι Γ σ G H x M')
    (hq : ∀ w M1, k w M1 = some out → f Γ M = some (.ok w M1) → ∀ ι' G' H' v, SR X.K Z ι' M1 Γ σ G' H' → Ext Z ι G H ι' G' H' → RWs X.K ι' G' v w → Q v H') : t σ H Q := by
  rcases bnd_some e with ⟨w, M1, e1, e2⟩ | ⟨x, M1, e1, e2⟩
  · exact h ι M Γ σ G H _ Q s e1 (hq w M1 e2 e1)
  · exact h ι M Γ σ G H _ Q s e1 (hx x M1 e2)
theorem XPost.ext (e : Ext Z ι G H ι' G' H') {x : XD} {M' : Store} (h : XPost X Wx Z ι Γ σ G H x M') : XPost X Wx Z ι' Γ σ G' H' x M' := fun i g hh c d s q r => h i g hh c d s (e.trans q) r
theorem EPost.ext (e : Ext Z ι G H ι' G' H') {Q : VK} {o : Out W} (h : EPost X Wx Z ι Γ σ G H Q o) : EPost X Wx Z ι' Γ σ G' H' Q o := by
  cases o with
  | ok w M => exact fun i g hh v s q r => h i g hh v s (e.trans q) r
  | exc x M => exact XPost.ext e h
theorem TPost.ext (e : Ext Z ι G H ι' G' H') {Q : Bool → Hp → Prop} {o : Out Bool} (h : TPost X Wx Z ι Γ σ G H Q o) : TPost X Wx Z ι' Γ σ G' H' Q o := by
  cases o with
  | ok w M => exact fun i g hh s q => h i g hh s (e.trans q)
  | exc x M => exact XPost.ext e h
theorem APost.ext (e : Ext Z ι G H ι' G' H') {Q : List V → Hp → Prop} {o : Out (List W)} (h : APost X Wx Z ι Γ σ G H Q o) : APost X Wx Z ι' Γ σ G' H' Q o := by
  cases o with
  | ok w M => exact fun i g hh v s q r => h i g hh v s (e.trans q) r
  | exc x M => exact XPost.ext e h
theorem SPost.ext (e : Ext Z ι G H ι' G' H') {D : Ends} {o : SO} (h : SPost X Wx Z ι G H D o) : SPost X Wx Z ι' G' H' D o := by
  cases o with
  | nx Γ M => exact fun i g hh v s q => h i g hh v s (e.trans q)
  | bk Γ M => exact fun i g hh v s q => h i g hh v s (e.trans q)
  | ct Γ M => exact fun i g hh v s q => h i g hh v s (e.trans q)
  | rt w M => exact fun i g hh v s q r => h i g hh v s (e.trans q) r
  | ex x Γ M => exact fun i g hh v c d s q r => h i g hh v c d s (e.trans q) r
theorem EPost.x {Q : VK} {o : Out W} (h : EPost X Wx Z ι Γ σ G H Q o) : ∀ x M', o = .exc x M' → XPost X Wx Z ι Γ σ G H x M' := fun x M' e => by subst e; exact h
theorem TPost.x {Q : Bool → Hp → Prop} {o : Out Bool} (h : TPost X Wx Z ι Γ σ G H Q o) : ∀ x M', o = .exc x M' → XPost X Wx Z ι Γ σ G H x M' := fun x M' e => by subst e; exact h
theorem APost.x {Q : List V → Hp → Prop} {o : Out (List W)} (h : APost X Wx Z ι Γ σ G H Q o) : ∀ x M', o = .exc x M' → XPost X Wx Z ι Γ σ G H x M' := fun x M' e => by subst e; exact h
end
end DL

set_option Elab.async false
set_option linter.all false
set_option maxRecDepth 100000
set_option autoImplicit false
set_option maxHeartbeats 1000000
namespace DL
open PySem PySem.Spec PyProof.Rows L2
variable [PWd]
/-! ### == of data -/
mutual
def eqD : D → D → Bool
  | .non, .non => true
  | .bl a, .bl b => a == b
  | .bl a, .int j => (if a then 1 else 0) == j
  | .int i, .bl b => i == (if b then 1 else 0)
  | .int i, .int j => i == j
  | .str x, .str y => x == y
  | .lst xs, .lst ys => eqL xs ys
  | .tup xs, .tup ys => eqL xs ys
  | _, _ => false
def eqL : List D → List D → Bool
  | [], [] => true
  | x :: xs, y :: ys => eqD x y && eqL xs ys
  | _, _ => false
end
mutual
/-- none, bools, ints, texts, lists and tuples of these -/
def pl : D → Bool
  | .non | .bl _ | .int _ | .str _ => true
  | .lst xs | .tup xs => plL xs
  | _ => false
def plL : List D → Bool
  | [] => true
  | x :: xs => pl x && plL xs
end
mutual
def dep : D → Nat
  | .lst xs | .tup xs => depL xs + 1
  | _ => 0
def depL : List D → Nat
  | [] => 0
  | x :: xs => max (dep x) (depL xs)
end
theorem plL_mem {xs : List D} : plL xs = true → ∀ x ∈ xs, pl x = true := by
  induction xs with
  | nil => intro _ x h; cases h
  | cons y ys ih =>
    intro h x hx
    rw [plL, Bool.and_eq_true] at h
    rcases List.mem_cons.mp hx with e | e
    · rw [e]; exact h.1
    · exact ih h.2 x e
theorem depL_mem {xs : List D} : ∀ x ∈ xs, dep x ≤ depL xs := by
  induction xs with
  | nil => intro x h; cases h
  | cons y ys ih =>
    intro x hx
    rw [depL]
    rcases List.mem_cons.mp hx with e | e
    · rw [e]; exact Nat.le_max_left _ _
    · exact Nat.le_trans (ih x e) (Nat.le_max_right _ _)
theorem eqL_refl_of {xs : List D} (h : ∀ x ∈ xs, eqD x x = true) : eqL xs xs = true := by
  induction xs with
  | nil => rw [eqL]
  | cons y ys ih => rw [eqL, h y (List.mem_cons_self ..), ih fun x hx => h x (List.mem_cons_of_mem _ hx)]; rfl
theorem eqD_refl_n : ∀ (n : Nat) (a : D), dep a ≤ n → pl a = true → eqD a a = true := by
  intro n
  induction n with
  | zero =>
    intro a h p
    cases a <;> first
      | (simp [eqD]; done)
      | (rw [dep] at h; omega)
      | (exact absurd p (by simp [pl]))
  | succ n ih =>
    intro a h p
    cases a with
    | lst xs =>
      rw [dep] at h; rw [pl] at p; rw [eqD]
      exact eqL_refl_of fun x hx => ih x (by have := depL_mem x hx; omega) (plL_mem p x hx)
    | tup xs =>
      rw [dep] at h; rw [pl] at p; rw [eqD]
      exact eqL_refl_of fun x hx => ih x (by have := depL_mem x hx; omega) (plL_mem p x hx)
    | _ => first | (simp [eqD]; done) | (exact absurd p (by simp [pl]))
theorem eqD_refl {a : D} (p : pl a = true) : eqD a a = true := eqD_refl_n _ a (Nat.le_refl _) p
theorem eqL_len {xs ys : List D} (h : xs.length ≠ ys.length) : eqL xs ys = false := by
  induction xs generalizing ys with
  | nil => cases ys with
    | nil => exact absurd rfl h
    | cons y ys => rw [eqL] <;> simp
  | cons x xs ih => cases ys with
    | nil => rw [eqL] <;> simp
    | cons y ys => rw [eqL, ih (by simpa using h), Bool.and_false]
/-- the j-th pair -/
def pe (xs ys : List D) (j : Nat) : Bool := match xs[j]?, ys[j]? with
  | some x, some y => eqD x y
  | _, _ => false
theorem eqL_range {xs ys : List D} (h : xs.length = ys.length) : eqL xs ys = (List.range xs.length).all (pe xs ys) := by
  induction xs generalizing ys with
  | nil => cases ys with
    | nil => rw [eqL]; rfl
    | cons y ys => cases h
  | cons x xs ih => cases ys with
    | nil => cases h
    | cons y ys =>
      rw [eqL, ih (by simpa using h), List.length_cons, List.range_succ_eq_map, List.all_cons, List.all_map]
      rfl
section
variable {X : Cx} {pins : List (Addr × Obj)} {σ : L2.St} {H : Hp} {s : Shared}
theorem seq_kind (I : Inv X pins σ H s) {a : Addr} {xs ys : List V} (h : SqL X.K H a xs) (h' : SqT X.K H a ys) : False := by
  obtain ⟨its, _, ⟨o, n, e, c, _⟩, _⟩ := I.list h
  obtain ⟨its', _, ⟨o', e', c', _⟩, _⟩ := I.tuple h'
  rw [e] at e'; cases e'
  rw [c] at c'
  exact absurd c' (by decide +kernel)
theorem RepL_uniq {xs ys : List D} {vs : List V} (h : ∀ x ∈ xs, ∀ y ∈ ys, ∀ v, Rep X.K H v x → Rep X.K H v y → x = y) (a : RepL X.K H vs xs) (b : RepL X.K H vs ys) : xs = ys := by
  induction vs generalizing xs ys with
  | nil => cases a; cases b; rfl
  | cons v vs ih =>
    cases a with
    | cons r t =>
      cases b with
      | cons r' t' =>
        rw [h _ (List.mem_cons_self ..) _ (List.mem_cons_self ..) v r r', ih (fun x hx y hy => h x (List.mem_cons_of_mem _ hx) y (List.mem_cons_of_mem _ hy)) t t']
theorem Rep_uniq (I : Inv X pins σ H s) : ∀ (n : Nat) (a b : D) (v : V), dep a ≤ n → pl a = true → pl b = true → Rep X.K H v a → Rep X.K H v b → a = b := by
  intro n
  induction n with
  | zero =>
    intro a b v hd pa pb ra rb
    cases ra <;> first
      | (rw [dep] at hd; omega)
      | (simp [pl] at pa; done)
      | (cases rb <;> first | rfl | (simp [pl] at pb; done))
  | succ n ih =>
    intro a b v hd pa pb ra rb
    cases ra with
    | @lst ad vs ds hs r =>
      cases rb with
      | @lst _ vs' es hs' r' =>
        rw [dep] at hd; rw [pl] at pa pb
        have e : vs = vs' := I.list_inj (SqL.of hs) (SqL.of hs')
        subst e
        rw [RepL_uniq (fun x hx y hy v h1 h2 => ih x y v (by have := depL_mem x hx; omega) (plL_mem pa x hx) (plL_mem pb y hy) h1 h2) r r']
      | tup hs' r' => exact (seq_kind I (SqL.of hs) hs').elim
      | _ => exact absurd pb (by simp [pl])
    | @tup ad vs ds hs r =>
      cases rb with
      | @tup _ vs' es hs' r' =>
        rw [dep] at hd; rw [pl] at pa pb
        have e : vs = vs' := I.tuple_inj hs hs'
        subst e
        rw [RepL_uniq (fun x hx y hy v h1 h2 => ih x y v (by have := depL_mem x hx; omega) (plL_mem pa x hx) (plL_mem pb y hy) h1 h2) r r']
      | lst hs' r' => exact (seq_kind I (SqL.of hs') hs).elim
      | _ => exact absurd pb (by simp [pl])
    | _ => first
      | (simp [pl] at pa; done)
      | (cases rb <;> first | rfl | (simp [pl] at pb; done))
/-- the pairs of two sequences -/
theorem eqAt_items {A : Around} {ds es : List D} {vs us : List V} {its its' : List Value} (h : ∀ x ∈ ds, ∀ y ∈ es, ∀ v u v' u', Rep X.K H v x → Rep X.K H u y → RelV v v' → RelV u u' → SeqAt.EqAt A s v' u' (eqD x y))
    (r : RepL X.K H vs ds) (q : RepL X.K H us es) (rv : Vals vs its) (ru : Vals us its') (j : Nat) (h1 : j < its.toArray.size) (h2 : j < its'.toArray.size) : SeqAt.EqAt A s its.toArray[j] its'.toArray[j] (pe ds es j) := by
  have n1 := rv.length
  have n2 := ru.length
  have n3 := r.length
  have n4 := q.length
  simp only [List.size_toArray] at h1 h2
  have d1 : j < ds.length := by omega
  have d2 : j < es.length := by omega
  obtain ⟨v, hv, rx⟩ := r.get (List.getElem?_eq_getElem d1)
  obtain ⟨u, hu, ry⟩ := q.get (List.getElem?_eq_getElem d2)
  obtain ⟨v', hv', rv'⟩ := rv.get hv
  obtain ⟨u', hu', ru'⟩ := ru.get hu
  have e1 : its.toArray[j] = v' := by
    have := List.getElem?_eq_some_iff.mp hv'
    simpa using this.2
  have e2 : its'.toArray[j] = u' := by
    have := List.getElem?_eq_some_iff.mp hu'
    simpa using this.2
  have e3 : pe ds es j = eqD ds[j] es[j] := by unfold pe; rw [List.getElem?_eq_getElem d1, List.getElem?_eq_getElem d2]
  rw [e1, e2, e3]
  exact h _ (List.getElem_mem _) _ (List.getElem_mem _) v u v' u' rx ry rv' ru'
theorem below {A : Around} {m n : Nat} (h : A.units + min (m + 1) (n + 1) < cLine) : A.units < cLine ∧ A.in1.units + min m n < cLine := by
  have e : A.in1.units = A.units + 1 := rfl
  rw [e]
  omega
theorem room0 {A : Around} {m : Nat} (h : A.units + m < cLine) : A.units < cLine := by omega
theorem RcAt_rep (I : Inv X pins σ H s) {A : Around} {a b : D} {x y : V} {v u : Value} {n : Nat} (hn : dep a ≤ n)
    (h : ∀ (a b : D) (v u : V) (v' u' : Value), dep a < n → A.in1.units + min (dep a) (dep b) < cLine → pl a = true → pl b = true → Rep X.K H v a → Rep X.K H u b → RelV v v' → RelV u u' → SeqAt.EqAt A.in1 s v' u' (eqD a b))
    (pa : pl a = true) (pb : pl b = true) (ra : Rep X.K H x a) (rb : Rep X.K H y b) (rx : RelV x v) (ry : RelV y u) (hu : A.units + min (dep a) (dep b) < cLine) : SeqAt.RcAt A s v u (eqD a b) := by
  have hu0 := room0 hu
  have items : ∀ {ds es : List D} {vs us : List V} {its its' : List Value}, depL ds + 1 ≤ n → plL ds = true → plL es = true → A.units + min (depL ds + 1) (depL es + 1) < cLine → RepL X.K H vs ds → RepL X.K H us es → Vals vs its → Vals us its' →
      ∀ j (h1 : j < its.toArray.size) (h2 : j < its'.toArray.size), SeqAt.EqAt A.in1 s its.toArray[j] its'.toArray[j] (pe ds es j) := fun {ds es vs us its its'} hn pd pe' hb r q rv ru => by
    refine eqAt_items (fun x hx y hy v u v' u' h1 h2 h3 h4 => h x y v u v' u' (by have := depL_mem x hx; omega) ?_ (plL_mem pd x hx) (plL_mem pe' y hy) h1 h2 h3 h4) r q rv ru
    have := depL_mem x hx
    have := depL_mem y hy
    have := (below hb).2
    omega
  cases ra with
  | non =>
    cases rx
    cases rb with
    | non => cases ry; exact SeqAt.RcAt.none_none
    | bl j => cases ry; exact SeqAt.RcAt.none_bool j
    | int j => obtain ⟨t, rfl⟩ := ry; exact SeqAt.RcAt.none_int j t
    | str j => obtain ⟨t, rfl⟩ := ry; exact SeqAt.RcAt.none_str j t
    | lst hs r => cases ry; obtain ⟨_, _, p, _⟩ := I.list (SqL.of hs); exact SeqAt.RcAt.none_list p.isList hu0
    | tup hs r => cases ry; obtain ⟨_, _, p, _⟩ := I.tuple hs; exact SeqAt.RcAt.none_tuple p hu0
    | _ => exact absurd pb (by simp [pl])
  | bl i =>
    cases rx
    cases rb with
    | non => cases ry; exact SeqAt.RcAt.bool_none i
    | bl j => cases ry; exact SeqAt.RcAt.bool_bool i j
    | int j => obtain ⟨t, rfl⟩ := ry; exact SeqAt.RcAt.bool_int i j t
    | str j => obtain ⟨t, rfl⟩ := ry; exact SeqAt.RcAt.bool_str i j t
    | lst hs r => cases ry; obtain ⟨_, _, p, _⟩ := I.list (SqL.of hs); exact SeqAt.RcAt.bool_list i p.isList hu0
    | tup hs r => cases ry; obtain ⟨_, _, p, _⟩ := I.tuple hs; exact SeqAt.RcAt.bool_tuple i p hu0
    | _ => exact absurd pb (by simp [pl])
  | int i =>
    obtain ⟨t', rfl⟩ := rx
    cases rb with
    | non => cases ry; exact SeqAt.RcAt.int_none i t'
    | bl j => cases ry; exact SeqAt.RcAt.int_bool i t' j
    | int j => obtain ⟨t, rfl⟩ := ry; exact SeqAt.RcAt.int_int i t' j t
    | str j => obtain ⟨t, rfl⟩ := ry; exact SeqAt.RcAt.int_str i t' j t
    | lst hs r => cases ry; obtain ⟨_, _, p, _⟩ := I.list (SqL.of hs); exact SeqAt.RcAt.int_list i t' p.isList hu0
    | tup hs r => cases ry; obtain ⟨_, _, p, _⟩ := I.tuple hs; exact SeqAt.RcAt.int_tuple i t' p hu0
    | _ => exact absurd pb (by simp [pl])
  | str i =>
    obtain ⟨t', rfl⟩ := rx
    cases rb with
    | non => cases ry; exact SeqAt.RcAt.str_none i t'
    | bl j => cases ry; exact SeqAt.RcAt.str_bool i t' j
    | int j => obtain ⟨t, rfl⟩ := ry; exact SeqAt.RcAt.str_int i t' j t
    | str j => obtain ⟨t, rfl⟩ := ry; exact SeqAt.RcAt.str_str i t' j t
    | lst hs r => cases ry; obtain ⟨_, _, p, _⟩ := I.list (SqL.of hs); exact SeqAt.RcAt.str_list i t' p.isList hu0
    | tup hs r => cases ry; obtain ⟨_, _, p, _⟩ := I.tuple hs; exact SeqAt.RcAt.str_tuple i t' p hu0
    | _ => exact absurd pb (by simp [pl])
  | @lst ad vs ds hs r =>
    cases rx
    obtain ⟨its, rv, p, hz⟩ := I.list (SqL.of hs)
    cases rb with
    | non => cases ry; exact SeqAt.RcAt.list_none p.isList hu0
    | bl j => cases ry; exact SeqAt.RcAt.list_bool j p.isList hu0
    | int j => obtain ⟨t, rfl⟩ := ry; exact SeqAt.RcAt.list_int j t p.isList hu0
    | str j => obtain ⟨t, rfl⟩ := ry; exact SeqAt.RcAt.list_str j t p.isList hu0
    | tup hs' r' => cases ry; obtain ⟨_, _, p', _⟩ := I.tuple hs'; exact SeqAt.RcAt.list_tuple p.isList p' hu0
    | @lst ad' us es hs' r' =>
      cases ry
      obtain ⟨its', ru, p', hz'⟩ := I.list (SqL.of hs')
      rw [pl] at pa pb
      have n1 := rv.length
      have n2 := ru.length
      have n3 := r.length
      have n4 := r'.length
      rw [dep, dep] at hu
      rw [dep] at hn
      show SeqAt.RcAt A s (.ref ad) (.ref ad') (eqL ds es)
      by_cases hl : ds.length = es.length
      · rw [eqL_range hl]
        have e : ds.length = its.toArray.size := by simp only [List.size_toArray]; omega
        rw [e]
        exact SeqAt.RcAt.lists p.isList p'.isList (by simp only [List.size_toArray]; omega) hu0 (items hn pa pb hu r r' rv ru)
      · rw [eqL_len hl]
        exact SeqAt.RcAt.lists_lengths p.isList p'.isList (by simp only [List.size_toArray, bne_iff_ne, ne_eq]; omega) hu0
    | _ => exact absurd pb (by simp [pl])
  | @tup ad vs ds hs r =>
    cases rx
    obtain ⟨its, rv, p, hz⟩ := I.tuple hs
    cases rb with
    | non => cases ry; exact SeqAt.RcAt.tuple_none p hu0
    | bl j => cases ry; exact SeqAt.RcAt.tuple_bool j p hu0
    | int j => obtain ⟨t, rfl⟩ := ry; exact SeqAt.RcAt.tuple_int j t p hu0
    | str j => obtain ⟨t, rfl⟩ := ry; exact SeqAt.RcAt.tuple_str j t p hu0
    | lst hs' r' => cases ry; obtain ⟨_, _, p', _⟩ := I.list (SqL.of hs'); exact SeqAt.RcAt.tuple_list p p'.isList hu0
    | @tup ad' us es hs' r' =>
      cases ry
      obtain ⟨its', ru, p', hz'⟩ := I.tuple hs'
      rw [pl] at pa pb
      have n1 := rv.length
      have n2 := ru.length
      have n3 := r.length
      have n4 := r'.length
      rw [dep, dep] at hu
      rw [dep] at hn
      show SeqAt.RcAt A s (.ref ad) (.ref ad') (eqL ds es)
      have q := SeqAt.RcAt.tuples p p' hu0 (items hn pa pb hu r r' rv ru)
      have e : ((List.range (min its.toArray.size its'.toArray.size)).all (pe ds es) && its.toArray.size == its'.toArray.size) = eqL ds es := by
        have z1 : its.toArray.size = ds.length := by simp only [List.size_toArray]; omega
        have z2 : its'.toArray.size = es.length := by simp only [List.size_toArray]; omega
        rw [z1, z2]
        by_cases hl : ds.length = es.length
        · rw [eqL_range hl, hl, Nat.min_self, beq_self_eq_true, Bool.and_true]
        · rw [eqL_len hl, beq_eq_false_iff_ne.mpr hl, Bool.and_false]
      rw [← e]
      exact q
    | _ => exact absurd pb (by simp [pl])
  | _ => exact absurd pa (by simp [pl])
theorem EqAt_of {A : Around} {x : V} {v u : Value} {k : Bool} (rx : RelV x v) (nf : ∀ b, x ≠ .flt b) (same : v = u → k = true) (h : SeqAt.RcAt A s v u k) : SeqAt.EqAt A s v u k := fun prog w E Q hq => by
  unfold eqBool
  refine wpAny_holding (wpAny_ite_split (fun e => ?_) fun _ => ?_)
  · rw [same (eq_of_beq e)] at hq
    exact wpAny_bind (wpAny_rule (wpAny_pure hq))
  · cases x with
    | flt b => exact absurd rfl (nf b)
    | non => cases rx; exact wpAny_bind (h prog w E _ (wpAny_truthy_bool hq))
    | bl _ => cases rx; exact wpAny_bind (h prog w E _ (wpAny_truthy_bool hq))
    | ref _ => cases rx; exact wpAny_bind (h prog w E _ (wpAny_truthy_bool hq))
    | ty _ => cases rx; exact wpAny_bind (h prog w E _ (wpAny_truthy_bool hq))
    | int _ => obtain ⟨t, rfl⟩ := rx; exact wpAny_bind (h prog w E _ (wpAny_truthy_bool hq))
    | str _ => obtain ⟨t, rfl⟩ := rx; exact wpAny_bind (h prog w E _ (wpAny_truthy_bool hq))
    | byt _ => obtain ⟨t, rfl⟩ := rx; exact wpAny_bind (h prog w E _ (wpAny_truthy_bool hq))
theorem Rep_nf {x : V} {d : D} (r : Rep X.K H x d) : ∀ b, x ≠ .flt b := fun b e => by subst e; cases r
theorem EqAt_rep (I : Inv X pins σ H s) : ∀ (n : Nat) (A : Around) (a b : D) (x y : V) (v u : Value), dep a ≤ n → A.units + min (dep a) (dep b) < cLine → pl a = true → pl b = true →
    Rep X.K H x a → Rep X.K H y b → RelV x v → RelV y u → SeqAt.EqAt A s v u (eqD a b) := by
  have same : ∀ (a b : D) (x y : V) (v u : Value), pl a = true → pl b = true → Rep X.K H x a → Rep X.K H y b → RelV x v → RelV y u → v = u → eqD a b = true := fun a b x y v u pa pb ra rb rx ry e => by
    subst e
    rw [← rx.inj ry] at rb
    rw [← Rep_uniq I _ a b x (Nat.le_refl _) pa pb ra rb]
    exact eqD_refl pa
  intro n
  induction n with
  | zero =>
    intro A a b x y v u hd hu pa pb ra rb rx ry
    exact EqAt_of rx (Rep_nf ra) (same a b x y v u pa pb ra rb rx ry) (RcAt_rep I hd (fun a' b' p q p' q' hlt => absurd hlt (Nat.not_lt_zero _)) pa pb ra rb rx ry hu)
  | succ n ih =>
    intro A a b x y v u hd hu pa pb ra rb rx ry
    exact EqAt_of rx (Rep_nf ra) (same a b x y v u pa pb ra rb rx ry) (RcAt_rep I hd (fun a' b' p q p' q' hlt hu' pa' pb' ra' rb' rp rq => ih A.in1 a' b' p q p' q' (Nat.le_of_lt_succ hlt) hu' pa' pb' ra' rb' rp rq) pa pb ra rb rx ry hu)
theorem eq_rep (I : Inv X pins σ H s) {A : Around} {a b : D} {x y : V} {v u : Value} (hu : A.units + min (dep a) (dep b) < cLine) (pa : pl a = true) (pb : pl b = true) (ra : Rep X.K H x a) (rb : Rep X.K H y b) (rx : RelV x v) (ry : RelV y u) :
    SeqAt.RcAt A s v u (eqD a b) := RcAt_rep I (Nat.le_refl _) (fun a' b' p q p' q' hlt hu' pa' pb' ra' rb' rp rq => EqAt_rep I _ A.in1 a' b' p q p' q' (Nat.le_refl _) hu' pa' pb' ra' rb' rp rq) pa pb ra rb rx ry hu
theorem RcNeAt_rep (I : Inv X pins σ H s) {A : Around} {a b : D} {x y : V} {v u : Value} {n : Nat} (hn : dep a ≤ n)
    (h : ∀ (a b : D) (v u : V) (v' u' : Value), dep a < n → A.in1.units + min (dep a) (dep b) < cLine → pl a = true → pl b = true → Rep X.K H v a → Rep X.K H u b → RelV v v' → RelV u u' → SeqAt.EqAt A.in1 s v' u' (eqD a b))
    (pa : pl a = true) (pb : pl b = true) (ra : Rep X.K H x a) (rb : Rep X.K H y b) (rx : RelV x v) (ry : RelV y u) (hu : A.units + min (dep a) (dep b) < cLine) : SeqAt.RcNeAt A s v u (!eqD a b) := by
  have hu0 := room0 hu
  have items : ∀ {ds es : List D} {vs us : List V} {its its' : List Value}, depL ds + 1 ≤ n → plL ds = true → plL es = true → A.units + min (depL ds + 1) (depL es + 1) < cLine → RepL X.K H vs ds → RepL X.K H us es → Vals vs its → Vals us its' →
      ∀ j (h1 : j < its.toArray.size) (h2 : j < its'.toArray.size), SeqAt.EqAt A.in1 s its.toArray[j] its'.toArray[j] (pe ds es j) := fun {ds es vs us its its'} hn pd pe' hb r q rv ru => by
    refine eqAt_items (fun x hx y hy v u v' u' h1 h2 h3 h4 => h x y v u v' u' (by have := depL_mem x hx; omega) ?_ (plL_mem pd x hx) (plL_mem pe' y hy) h1 h2 h3 h4) r q rv ru
    have := depL_mem x hx
    have := depL_mem y hy
    have := (below hb).2
    omega
  cases ra with
  | non =>
    cases rx
    cases rb with
    | non => cases ry; exact SeqAt.RcNeAt.none_none
    | bl j => cases ry; exact SeqAt.RcNeAt.none_bool j
    | int j => obtain ⟨t, rfl⟩ := ry; exact SeqAt.RcNeAt.none_int j t
    | str j => obtain ⟨t, rfl⟩ := ry; exact SeqAt.RcNeAt.none_str j t
    | lst hs r => cases ry; obtain ⟨_, _, p, _⟩ := I.list (SqL.of hs); exact SeqAt.RcNeAt.none_list p.isList hu0
    | tup hs r => cases ry; obtain ⟨_, _, p, _⟩ := I.tuple hs; exact SeqAt.RcNeAt.none_tuple p hu0
    | _ => exact absurd pb (by simp [pl])
  | bl i =>
    cases rx
    cases rb with
    | non => cases ry; exact SeqAt.RcNeAt.bool_none i
    | bl j => cases ry; exact SeqAt.RcNeAt.bool_bool i j
    | int j => obtain ⟨t, rfl⟩ := ry; exact SeqAt.RcNeAt.bool_int i j t
    | str j => obtain ⟨t, rfl⟩ := ry; exact SeqAt.RcNeAt.bool_str i j t
    | lst hs r => cases ry; obtain ⟨_, _, p, _⟩ := I.list (SqL.of hs); exact SeqAt.RcNeAt.bool_list i p.isList hu0
    | tup hs r => cases ry; obtain ⟨_, _, p, _⟩ := I.tuple hs; exact SeqAt.RcNeAt.bool_tuple i p hu0
    | _ => exact absurd pb (by simp [pl])
  | int i =>
    obtain ⟨t', rfl⟩ := rx
    cases rb with
    | non => cases ry; exact SeqAt.RcNeAt.int_none i t'
    | bl j => cases ry; exact SeqAt.RcNeAt.int_bool i t' j
    | int j => obtain ⟨t, rfl⟩ := ry; exact SeqAt.RcNeAt.int_int i t' j t
    | str j => obtain ⟨t, rfl⟩ := ry; exact SeqAt.RcNeAt.int_str i t' j t
    | lst hs r => cases ry; obtain ⟨_, _, p, _⟩ := I.list (SqL.of hs); exact SeqAt.RcNeAt.int_list i t' p.isList hu0
    | tup hs r => cases ry; obtain ⟨_, _, p, _⟩ := I.tuple hs; exact SeqAt.RcNeAt.int_tuple i t' p hu0
    | _ => exact absurd pb (by simp [pl])
  | str i =>
    obtain ⟨t', rfl⟩ := rx
    cases rb with
    | non => cases ry; exact SeqAt.RcNeAt.str_none i t'
    | bl j => cases ry; exact SeqAt.RcNeAt.str_bool i t' j
    | int j => obtain ⟨t, rfl⟩ := ry; exact SeqAt.RcNeAt.str_int i t' j t
    | str j => obtain ⟨t, rfl⟩ := ry; exact SeqAt.RcNeAt.str_str i t' j t
    | lst hs r => cases ry; obtain ⟨_, _, p, _⟩ := I.list (SqL.of hs); exact SeqAt.RcNeAt.str_list i t' p.isList hu0
    | tup hs r => cases ry; obtain ⟨_, _, p, _⟩ := I.tuple hs; exact SeqAt.RcNeAt.str_tuple i t' p hu0
    | _ => exact absurd pb (by simp [pl])
  | @lst ad vs ds hs r =>
    cases rx
    obtain ⟨its, rv, p, hz⟩ := I.list (SqL.of hs)
    cases rb with
    | non => cases ry; exact SeqAt.RcNeAt.list_none p.isList hu0
    | bl j => cases ry; exact SeqAt.RcNeAt.list_bool j p.isList hu0
    | int j => obtain ⟨t, rfl⟩ := ry; exact SeqAt.RcNeAt.list_int j t p.isList hu0
    | str j => obtain ⟨t, rfl⟩ := ry; exact SeqAt.RcNeAt.list_str j t p.isList hu0
    | tup hs' r' => cases ry; obtain ⟨_, _, p', _⟩ := I.tuple hs'; exact SeqAt.RcNeAt.list_tuple p.isList p' hu0
    | @lst ad' us es hs' r' =>
      cases ry
      obtain ⟨its', ru, p', hz'⟩ := I.list (SqL.of hs')
      rw [pl] at pa pb
      have n1 := rv.length
      have n2 := ru.length
      have n3 := r.length
      have n4 := r'.length
      rw [dep, dep] at hu
      rw [dep] at hn
      show SeqAt.RcNeAt A s (.ref ad) (.ref ad') (!eqL ds es)
      by_cases hl : ds.length = es.length
      · rw [eqL_range hl]
        have e : ds.length = its.toArray.size := by simp only [List.size_toArray]; omega
        rw [e]
        exact SeqAt.RcNeAt.lists p.isList p'.isList (by simp only [List.size_toArray]; omega) hu0 (items hn pa pb hu r r' rv ru)
      · rw [eqL_len hl]
        exact SeqAt.RcNeAt.lists_lengths p.isList p'.isList (by simp only [List.size_toArray, bne_iff_ne, ne_eq]; omega) hu0
    | _ => exact absurd pb (by simp [pl])
  | @tup ad vs ds hs r =>
    cases rx
    obtain ⟨its, rv, p, hz⟩ := I.tuple hs
    cases rb with
    | non => cases ry; exact SeqAt.RcNeAt.tuple_none p hu0
    | bl j => cases ry; exact SeqAt.RcNeAt.tuple_bool j p hu0
    | int j => obtain ⟨t, rfl⟩ := ry; exact SeqAt.RcNeAt.tuple_int j t p hu0
    | str j => obtain ⟨t, rfl⟩ := ry; exact SeqAt.RcNeAt.tuple_str j t p hu0
    | lst hs' r' => cases ry; obtain ⟨_, _, p', _⟩ := I.list (SqL.of hs'); exact SeqAt.RcNeAt.tuple_list p p'.isList hu0
    | @tup ad' us es hs' r' =>
      cases ry
      obtain ⟨its', ru, p', hz'⟩ := I.tuple hs'
      rw [pl] at pa pb
      have n1 := rv.length
      have n2 := ru.length
      have n3 := r.length
      have n4 := r'.length
      rw [dep, dep] at hu
      rw [dep] at hn
      show SeqAt.RcNeAt A s (.ref ad) (.ref ad') (!eqL ds es)
      have q := SeqAt.RcNeAt.tuples p p' hu0 (items hn pa pb hu r r' rv ru)
      have e : ((List.range (min its.toArray.size its'.toArray.size)).all (pe ds es) && its.toArray.size == its'.toArray.size) = eqL ds es := by
        have z1 : its.toArray.size = ds.length := by simp only [List.size_toArray]; omega
        have z2 : its'.toArray.size = es.length := by simp only [List.size_toArray]; omega
        rw [z1, z2]
        by_cases hl : ds.length = es.length
        · rw [eqL_range hl, hl, Nat.min_self, beq_self_eq_true, Bool.and_true]
        · rw [eqL_len hl, beq_eq_false_iff_ne.mpr hl, Bool.and_false]
      rw [← e]
      exact q
    | _ => exact absurd pb (by simp [pl])
  | _ => exact absurd pa (by simp [pl])
theorem ne_rep (I : Inv X pins σ H s) {A : Around} {a b : D} {x y : V} {v u : Value} (hu : A.units + min (dep a) (dep b) < cLine) (pa : pl a = true) (pb : pl b = true) (ra : Rep X.K H x a) (rb : Rep X.K H y b) (rx : RelV x v) (ry : RelV y u) :
    SeqAt.RcNeAt A s v u (!eqD a b) := RcNeAt_rep I (Nat.le_refl _) (fun a' b' p q p' q' hlt hu' pa' pb' ra' rb' rp rq => EqAt_rep I _ A.in1 a' b' p q p' q' (Nat.le_refl _) hu' pa' pb' ra' rb' rp rq) pa pb ra rb rx ry hu
end
end DL

set_option Elab.async false
set_option linter.all false
set_option maxRecDepth 100000
set_option autoImplicit false
set_option maxHeartbeats 1000000
/-! what a def promises, told of frames under no repr: the guards are known -/
namespace DL
open PySem PySem.Spec PyProof.Rows L2
/-- no list, tuple or dict is being shown -/
def Gd (A : Around) : Prop := A.guards = some []
theorem Gd.deeper {A : Around} (h : Gd A) (env : PySem.Env) : Gd (A.deeper env) := h
theorem Gd.in1 {A : Around} (h : Gd A) : Gd A.in1 := h
theorem gd_caller : Gd callerA := rfl
theorem Gd.make {A : Around} (h : Gd A) (C : Addr) (us : List Value) (kw : List (Str × Value)) : Gd (A.under (.builtin "type.__call__" ⟨.ref C :: us, kw⟩)) := by
  unfold Gd at h ⊢
  simp [Around.under, Code.guards, Code.isGuard, guardIds, pushGuards, h]
structure FnG (P : Program) (w : World) (K : PySem.W.Frag) (mg : Str → Option Value) (base : Heap) (CX : CXT) (k : Nat)
    (fa : Addr) (fd : FuncData) (ps : List Str) (sp : Sp) : Prop where
  many : ∀ vs H Q E, sp vs H Q E → vs.length = ps.length
  goes : ∀ (A : Around) (fr : List PySem.Env) (s : Shared) (H : Hp) (as : Args) (us : List Value) (vs : List V) (Q : VK) (E : XK),
    Room k A → Gd A → Env0 P w K mg base A fr s H → BindsTo s fd as (ps.zip us) → Vals vs us → sp vs H Q E →
      codeAny (model P w) A (.call (.ref fa) as) (CR CX fr P w H s Q E) s
section
variable {X : Cx} {CX : CXT} {k : Nat} {fa : Addr} {fd : FuncData} {ps : List Str} {sp : Sp} {E : L2.St → XK} {E1 : XK}
variable {x : Str} {p pos : Pos} {e : Expr} {es : List Expr} {t : TA} {pins : List (Addr × Obj)} {σ : L2.St} {H : Hp} {s : Shared} {Q : VK}
theorem FnG.mono {P : Program} {w : World} {K : PySem.W.Frag} {mg : Str → Option Value} {base : Heap} {j : Nat} (F : FnG P w K mg base CX j fa fd ps sp) (h : j ≤ k) : FnG P w K mg base CX k fa fd ps sp :=
  ⟨F.many, fun A fr s H as us vs Q E r => F.goes A fr s H as us vs Q E (r.mono h)⟩
theorem go_fn {us : List Value} {vs : List V} (F : FnG X.prog X.w X.K X.mg X.base CX k fa fd ps sp) (rm : Room k X.A) (gd : Gd X.A) (bd : Binds X.K fd ps [])
    (px : PassesAt CX X σ E1) (I : Inv X pins σ H s) (r : Vals vs us) (q : sp vs H Q E1) : wpAny (model X.prog X.w) X.A (call (.ref fa) us) (EP X pins σ Q) X.xe s := by
  have ln := F.many _ _ _ _ q
  have b := bd s us I.kIn (by rw [List.append_nil, ← r.length]; exact ln)
  rw [List.append_nil] at b
  have run := F.goes X.A X.stack s H ⟨us, []⟩ us vs Q E1 rm gd I.env0 b r q
  refine wpAny_call (codeAny_mono run fun z s' hz => ?_)
  match z, hz with
  | .error err, hz => exact px pins H s err s' I hz
  | .ok (.ret u), hz => exact I.after hz
theorem pe_callG (F : FnG X.prog X.w X.K X.mg X.base CX k fa fd ps sp) (rm : Room k X.A) (gd : Gd X.A) (gl : Gl X x) (at_ : X.mg x = some (.ref fa)) (kp : PySem.W.keepIn X.K (.ref fa) = true)
    (bd : Binds X.K fd ps []) (px : ∀ σ, PassesAt CX X σ (E σ)) (ha : PA X (e :: es) t)
    (db : (x == ("__debug__" : Str)) = false := by decide) (se : starEach (e :: es) X.env = (false, eval e X.env) :: starEach es X.env := by rfl)
    (sn : (backTo pos (starEach es X.env)).any (·.1) = false := by rfl) : PE X (.Call (.Name x p) (e :: es) [] pos) (tCallS sp E t) :=
  ⟨fun pn s σ H Q I q => wpAny_Call_Name_kw (ld_glob I gl at_ (PySem.W.callWith_K (h₀ := X.base) I.ok.mod.kin kp
    (thn (ha.run pos pn s σ H _ I q) fun us s1 ⟨vs, H1, I1, r, q1⟩ => ⟨I1.kIn, go_fn F rm gd bd (px σ) I1 r q1⟩) se sn) db)⟩
theorem pe_callG0 (F : FnG X.prog X.w X.K X.mg X.base CX k fa fd [] sp) (rm : Room k X.A) (gd : Gd X.A) (gl : Gl X x) (at_ : X.mg x = some (.ref fa)) (kp : PySem.W.keepIn X.K (.ref fa) = true)
    (bd : Binds X.K fd [] []) (px : ∀ σ, PassesAt CX X σ (E σ)) (db : (x == ("__debug__" : Str)) = false := by decide) : PE X (.Call (.Name x p) [] [] pos) (tCallS sp E tNil) :=
  ⟨fun pn s σ H Q I q => wpAny_Call_Name_kw (ld_glob I gl at_ (PySem.W.callWith_K0 I.kIn kp (go_fn (us := []) F rm gd bd (px σ) I .nil q)) db)⟩
end
section
variable {P : Program} {w : World} {K : PySem.W.Frag} {mg : Str → Option Value} {base : Heap} {CX : CXT} {k : Nat} {fa : Addr} {fd : FuncData} {N ps : List Str} {sp : Sp}
variable {x qual : Str} {params : Arguments} {bd : List Stmt} {sc : Scope} {dvs : List V} {kws : List (Str × V)}
/-- a def by its body -/
theorem fng_of (F : FunD K x qual params bd sc dvs kws fa fd) (S : FnScope N ps sc) (many : ∀ vs H Q E, sp vs H Q E → vs.length = ps.length)
    (b : ∀ (cd : Value) (A : Around) (fr : List PySem.Env) (s : Shared) (H : Hp) (vs : List V) (Q : VK) (E : XK), Room k (A.deeper (envOfC qual sc s.heap.objs.size fa cd)) → Gd A → sp vs H Q E →
      ∃ t, PSs (cxOf CX P w K mg base N qual sc fa cd A fr s H E) bd t ∧ t { nx := fun _ H' => Q .non H', rt := Q } (start N vs) H) :
    FnG P w K mg base CX (k + 1) fa fd ps sp := by
  obtain ⟨_, _, dV, kV, doc, pm, an, cd, ct, _, rfl, lk, code, _, _⟩ := F.ex
  constructor
  · exact many
  intro A fr s H as us vs Q E rm gd e0 bi r q
  have inK : K.In s.heap := e0.mod.kin.keeps fun c o z => (e0.bs c o z).1
  have kinds : ∀ y ∈ ps.zip us, sc.names.lookup y.1 = some .local ∨
      (sc.names.lookup y.1 = some .cell ∧ ((cellsFrom (s.heap.objs.size + 1) sc.names []).lookup y.1).isSome = true) := by
    rintro ⟨n, v⟩ hy
    exact (S.par n (List.of_mem_zip hy).1).imp id fun z => ⟨z, PySem.W.cellsFrom_some _ _ _ (.inl z)⟩
  refine codeAny_call_function rm.depth (inK _ _ lk) rfl S.co S.gen rfl (PySem.W.codeRec_of inK code) (bi _ _ _ _ ?_)
  refine wpAny_newFunctionEnv_cells S.kind kinds fun env ee s1 inc => ?_
  subst ee
  refine ⟨(e0.mod.nolimit.keeps fun c o z => (e0.bs c o z).1).keeps inc.toInCall.keep, codeAny_func ?_⟩
  obtain ⟨t, pt, qt⟩ := b cd A fr s H vs Q E (rm.deeper _) gd q
  have I : Inv (cxOf CX P w K mg base N qual sc fa cd A fr s H E) [] (start N vs) H s1 :=
    inv_start S rm.hd e0 (many _ _ _ _ q) r inc
  have done : ∀ {s' : Shared} {σ' : L2.St} {H' : Hp} {v : V} {u : Value}, Inv (cxOf CX P w K mg base N qual sc fa cd A fr s H E) [] σ' H' s' →
      RelV v u → Q v H' → CE fr P w H s Q u s' := fun J rv z => ⟨_, _, J.os, J.bare, J.base, J.hok, rv, z⟩
  refine wpAny_mono (pt.run [] s1 (start N vs) H _ I qt) (fun fl s' hz => ?_) fun _ _ z => z
  match fl, hz with
  | .ret u, ⟨v, σ', H', J, rv, z⟩ => exact done J rv z
  | .next, ⟨σ', H', J, z⟩ => exact done (v := V.non) (u := Value.none) J rfl z
  | .brk, ⟨_, _, _, z⟩ => exact z.elim
  | .cont, ⟨_, _, _, z⟩ => exact z.elim
end
end DL

set_option Elab.async false
set_option linter.all false
set_option maxRecDepth 100000
set_option autoImplicit false
set_option maxHeartbeats 1000000
namespace DL
open PySem PySem.Spec PyProof.Rows L2
variable [PWd]
variable {K : PySem.W.Frag} {G G' G'' H H' H'' : Hp} {Z : Addr → Prop} {ι ι' ι'' : List Addr} {M M' : Store} {Γ Γ' : Env} {σ σ' : L2.St}

/-! ### what expressions compute -/
def eVar (i : Nat) : EF := fun Γ M => match Γ[i]? with
  | some (some w) => some (.ok w M)
  | _ => none
def eC (d : D) : EF := fun _ M => some (.ok (.d d) M)
def allD : List W → Option (List D)
  | [] => some []
  | .d x :: r => (allD r).map (x :: ·)
  | .r _ :: _ => none
def aNil : AF := fun _ M => some (.ok [] M)
def aCons (f : EF) (g : AF) : AF := fun Γ M => bnd (f Γ M) fun w M1 => bnd (g Γ M1) fun ws M2 => some (.ok (w :: ws) M2)
def eTup (f : AF) : EF := fun Γ M => bnd (f Γ M) fun ws M1 => (allD ws).map fun ds => .ok (.d (.tup ds)) M1
def eLst (f : AF) : EF := fun Γ M => bnd (f Γ M) fun ws M1 => (allD ws).map fun ds => .ok (.d (.lst ds)) M1
/-- a list that is changed later: a cell -/
def eLstC (f : AF) : EF := fun Γ M => bnd (f Γ M) fun ws M1 => (allD ws).map fun ds => .ok (.r M1.length) (M1 ++ [.lst ds])
def rd2 (h : D → D → Option D) (M : Store) (w w' : W) : Option D := (rd M w).bind fun a => (rd M w').bind fun b => h a b
def eOp (h : D → D → Option D) (f g : EF) : EF := fun Γ M => bnd (f Γ M) fun w M1 => bnd (g Γ M1) fun w' M2 => (rd2 h M2 w w').map fun d => .ok (.d d) M2
def eUn (h : D → Option D) (f : EF) : EF := fun Γ M => bnd (f Γ M) fun w M1 => ((rd M1 w).bind h).map fun d => .ok (.d d) M1
/-- a built-in, by the data of its arguments -/
def rds (M : Store) : List W → Option (List D)
  | [] => some []
  | w :: r => (rd M w).bind fun x => (rds M r).map (x :: ·)
def eCall (h : List D → Option D) (f : AF) : EF := fun Γ M => bnd (f Γ M) fun ws M1 => ((rds M1 ws).bind h).map fun d => .ok (.d d) M1
def truthD : D → Option Bool
  | .non => some false
  | .bl b => some b
  | .int i => some (i != 0)
  | .str x => if x.length ≤ sizeLine then some ((x.length : Int) != 0) else none
  | .lst xs => some (!xs.isEmpty)
  | .rol xs => some (!xs.isEmpty)
  | .tup xs => some (!xs.isEmpty)
  | _ => none
def truthW (M : Store) (w : W) : Option Bool := (rd M w).bind truthD
def eIf (t : TF) (f g : EF) : EF := fun Γ M => bnd (t Γ M) fun k M1 => if k = true then f Γ M1 else g Γ M1
def eOr (f g : EF) : EF := fun Γ M => bnd (f Γ M) fun w M1 => (truthW M1 w).bind fun k => if k = true then some (.ok w M1) else g Γ M1
def eAnd (f g : EF) : EF := fun Γ M => bnd (f Γ M) fun w M1 => (truthW M1 w).bind fun k => if k = true then g Γ M1 else some (.ok w M1)
def eNot (f : EF) : EF := fun Γ M => bnd (f Γ M) fun w M1 => (truthW M1 w).map fun k => .ok (.d (.bl (!k))) M1
def tTru (f : EF) : TF := fun Γ M => bnd (f Γ M) fun w M1 => (truthW M1 w).map fun k => .ok k M1
def blW : W → Option Bool
  | .d (.bl k) => some k
  | _ => none
/-- a comparison as a test -/
def tBl (f : EF) : TF := fun Γ M => bnd (f Γ M) fun w M1 => (blW w).map fun k => .ok k M1
def tNot (t : TF) : TF := fun Γ M => bnd (t Γ M) fun k M1 => some (.ok (!k) M1)
def tAnd (t u : TF) : TF := fun Γ M => bnd (t Γ M) fun k M1 => if k = true then u Γ M1 else some (.ok false M1)
def tOr (t u : TF) : TF := fun Γ M => bnd (t Γ M) fun k M1 => if k = true then some (.ok true M1) else u Γ M1
/-- a op b op' c -/
def eChain (h h' : D → D → Option D) (f g k : EF) : EF := fun Γ M => bnd (f Γ M) fun w M1 => bnd (g Γ M1) fun w' M2 => (rd2 h M2 w w').bind fun z => match z with
  | .bl true => bnd (k Γ M2) fun w'' M3 => (rd2 h' M3 w' w'').map fun d => .ok (.d d) M3
  | .bl false => some (.ok (.d (.bl false)) M2)
  | _ => none

/-! ### statements -/
def bndS {α : Type} (Γ : Env) (x : Option (Out α)) (k : α → Store → Option SO) (_ : Tag k := .mk) : Option SO :=
  match x with
  | none => none
  | some (.ok a M) => k a M
  | some (.exc e M) => some (.ex e Γ M)
def sNx : SF := fun Γ M => some (.nx Γ M)
def sSeq (a b : SF) : SF := fun Γ M => match a Γ M with
  | some (.nx Γ' M') => b Γ' M'
  | r => r
def sIf (t : TF) (a b : SF) : SF := fun Γ M => bndS Γ (t Γ M) fun k M1 => if k = true then a Γ M1 else b Γ M1
def sRet (f : EF) : SF := fun Γ M => bndS Γ (f Γ M) fun w M1 => some (.rt w M1)
def sRetN : SF := fun _ M => some (.rt (.d .non) M)
def sSet (i : Nat) (f : EF) : SF := fun Γ M => bndS Γ (f Γ M) fun w M1 => some (.nx (Γ.set i (some w)) M1)
def sExpr (f : EF) : SF := fun Γ M => bndS Γ (f Γ M) fun _ M1 => some (.nx Γ M1)
def sBrk : SF := fun Γ M => some (.bk Γ M)
def sCnt : SF := fun Γ M => some (.ct Γ M)

/-! ### operations by data -/
def OpS (X : Cx) (r : R2) (h : D → D → Option D) : Prop := ∀ (G H : Hp) (x y : V) (a b d : D) (Q : VK), Same G H → RB X.K G H x a → RB X.K G H y b → h a b = some d →
  (∀ v G' H', Grow G H G' H' → Rep X.K G' v d → Q v H') → r x y H Q
def UnS (X : Cx) (r : V → Hp → VK → Prop) (h : D → Option D) : Prop := ∀ (G H : Hp) (x : V) (a d : D) (Q : VK), Same G H → RB X.K G H x a → h a = some d →
  (∀ v G' H', Grow G H G' H' → Rep X.K G' v d → Q v H') → r x H Q
abbrev RBs (K : PySem.W.Frag) (G H : Hp) : List V → List D → Prop := Paired (RB K G H)
def CallS (X : Cx) (r : List V → Hp → VK → Prop) (h : List D → Option D) : Prop := ∀ (G H : Hp) (xs : List V) (as : List D) (d : D) (Q : VK), Same G H → RBs X.K G H xs as → h as = some d →
  (∀ v G' H', Grow G H G' H' → Rep X.K G' v d → Q v H') → r xs H Q
theorem rds_rbs (c : CRel K Z ι M G H) : ∀ {vs : List V} {ws : List W} {ds : List D}, RWs K ι G vs ws → rds M ws = some ds → RBs K G H vs ds
  | _, _, _, .nil, h => by
    cases h
    exact .nil
  | _, _, _, .cons (b := w) r t, h => by
    unfold rds at h
    cases e : rd M w with
    | none => rw [e] at h; cases h
    | some x =>
      rw [e] at h
      rw [Option.bind_some] at h
      obtain ⟨l, hl, rfl⟩ := Option.map_eq_some_iff.mp h
      exact .cons (c.rb r e) (rds_rbs c t hl)
theorem allD_rep : ∀ {vs : List V} {ws : List W} {ds : List D}, RWs K ι G vs ws → allD ws = some ds → RepL K G vs ds
  | _, _, _, .nil, h => by
    cases h
    exact .nil
  | _, _, _, .cons (.d r) t, h => by
    unfold allD at h
    obtain ⟨l, hl, rfl⟩ := Option.map_eq_some_iff.mp h
    exact .cons r (allD_rep t hl)
  | _, _, _, .cons (.r _) _, h => nomatch (show none = some _ from h)

/-! ### the context -/
structure Ctx (P : Program) (w : World) (K : PySem.W.Frag) (mg : Str → Option Value) (base : Heap) (X : Cx) (N : List Str) (sc : Scope) (Wx : WX) (k : Nat) : Prop where
  hP : X.prog = P
  hw : X.w = w
  hK : X.K = K
  hmg : X.mg = mg
  hbs : X.base = base
  hpP : PWd.P = P
  hpw : PWd.w = w
  hN : X.N = N
  nd : N.Nodup
  hs : X.env.scope = sc
  calm : X.calm = true
  tk : Takes X Wx
  room : Room k X.A
  gd : Gd X.A
/-- which cells are its own -/
structure Fx (X : Cx) (so : Scope) : Prop where
  fn : ∀ x, so.names.lookup x = some .cell → X.fn x = true
section
variable {P : Program} {w : World} {K : PySem.W.Frag} {mg : Str → Option Value} {base : Heap} {X : Cx} {N : List Str} {sc : Scope} {Wx : WX} {k : Nat}
theorem Ctx.m (C : Ctx P w K mg base X N sc Wx k) {x : Str} {r : Option Value} (h : mg x = r) : X.mg x = r := by rw [C.hmg]; exact h
theorem Ctx.kp (C : Ctx P w K mg base X N sc Wx k) {v : Value} {r : Bool} (h : PySem.W.keepIn K v = r) : PySem.W.keepIn X.K v = r := by rw [C.hK]; exact h
theorem Ctx.g (C : Ctx P w K mg base X N sc Wx k) {x : Str} {r : Option NameKind} (h : sc.names.lookup x = r) : X.env.scope.names.lookup x = r := by rw [C.hs]; exact h
end
section
variable {P : Program} {w : World} {mg : Str → Option Value} {base : Heap}
variable {X : Cx} {N : List Str} {sc : Scope} {Wx : WX} {k : Nat} {a b c e : Expr} {es : List Expr} {f g h' : EF} {t u : TF} {af : AF} {pos : Pos}
/-- new objects behind a part -/
theorem SR.grow (s : SR K Z ι M Γ σ G H) (w : Grow G H G' H') : SR K Z ι M Γ σ G' H' := s.at (s.cr.growE w) (s.cr.grow w)
theorem de_var (C : Ctx P w K mg base X N sc Wx k) (i : Nat) {x : Str} (hN : N[i]? = some x := by rfl) (hv : Vis sc x := by first | exact Or.inl rfl | exact Or.inr (Or.inl rfl) | exact Or.inr (Or.inr rfl)) (hd : (x == ("__debug__" : Str)) = false := by decide)
    (hcd : (x == ("__classdict__" : Str)) = false := by decide) : DE X Wx Z (.Name x pos) (eVar i) := by
  refine ⟨_, pe_var (i := i) (by rw [C.hN]; exact hN) (by rw [C.hs]; exact hv) hd hcd, fun ι M Γ σ G H out Q s e q => ?_⟩
  unfold eVar at e
  cases z : Γ[i]? with
  | none => rw [z] at e; cases e
  | some o =>
    cases o with
    | none => rw [z] at e; cases e
    | some w =>
      rw [z] at e
      cases e
      obtain ⟨v, h1, h2⟩ := s.sl i w z
      exact ⟨v, h1, q ι G H v s Ext.refl h2⟩
theorem EOk_c {v : V} {d : D} (r : ∀ G, Rep X.K G v d) : EOk X Wx Z (tC v) (eC d) := fun ι M Γ σ G H out Q s e q => by
  cases e
  exact q ι G H v s Ext.refl (.d (r G))
theorem de_int {i j} : DE X Wx Z (.Constant (.int i) j pos) (eC (.int i)) := ⟨_, pe_int, EOk_c fun _ => .int i⟩
theorem de_bl {i j} : DE X Wx Z (.Constant (.bool i) j pos) (eC (.bl i)) := ⟨_, pe_bl, EOk_c fun _ => .bl i⟩
theorem de_non {j} : DE X Wx Z (.Constant .none j pos) (eC .non) := ⟨_, pe_non, EOk_c fun _ => .non⟩
theorem de_str {i j} : DE X Wx Z (.Constant (.str i) j pos) (eC (.str i)) := ⟨_, pe_str, EOk_c fun _ => .str i⟩
/-- a name of the module that stands for data -/
theorem de_glob (C : Ctx P w K mg base X N sc Wx k) {x : Str} {v : V} {u : Value} {d : D} (hm : mg x = some u) (rv : RelV v u) (r : ∀ G, Rep K G v d) (hg : sc.names.lookup x = some .globalImplicit := by rfl) (hd : (x == ("__debug__" : Str)) = false := by decide) :
    DE X Wx Z (.Name x pos) (eC d) := ⟨_, pe_glob (C.g hg) (C.m hm) rv hd, EOk_c (by rw [C.hK]; exact r)⟩

/-! ### arguments and displays -/
theorem da_nil : DA X Wx Z [] aNil := ⟨⟨_, pa_nil, fun ι M Γ σ G H out Q s e q => by
  cases e
  exact q ι G H [] s Ext.refl .nil⟩, fun Γ M ws M' e => by cases e; rfl⟩
theorem da_cons (ha : DE X Wx Z e f) (hr : DA X Wx Z es af) (hs : starEach (e :: es) X.env = (false, eval e X.env) :: starEach es X.env := by rfl) : DA X Wx Z (e :: es) (aCons f af) := by
  obtain ⟨ta, pa, oa⟩ := ha
  obtain ⟨⟨tr, pr, or⟩, len⟩ := hr
  refine ⟨⟨_, pa_cons pa pr hs, fun ι M Γ σ G H out Q s e q => ?_⟩, fun Γ M ws M' e => ?_⟩
  · refine oa.then s e (APost.x q) fun w M1 e1 ι1 G1 H1 v s1 x1 r1 => ?_
    refine or.then s1 e1 (APost.x (q.ext x1)) fun ws M2 e2 _ ι2 G2 H2 vs s2 x2 r2 => ?_
    cases e2
    exact q ι2 G2 H2 (v :: vs) s2 (x1.trans x2) (.cons (x2.rw r1) r2)
  · rcases bnd_some e with ⟨w, M1, e1, e2⟩ | ⟨x, M1, e1, e2⟩
    · rcases bnd_some e2 with ⟨w2, M2, e3, e4⟩ | ⟨x, M2, e3, e4⟩
      · cases e4
        rw [List.length_cons, List.length_cons, len _ _ _ _ e3]
      · cases e4
    · cases e2
theorem small_line {n : Nat} (h : n ≤ 1000) : n ≤ sizeLine := Nat.le_of_lt (small1000 h)
theorem de_tup {x1} (ha : DA X Wx Z es af) (hl : es.length ≤ 1000 := by decide) : DE X Wx Z (.Tuple es x1 pos) (eTup af) := by
  obtain ⟨⟨ta, pa, oa⟩, len⟩ := ha
  refine ⟨_, pe_tup pa, fun ι M Γ σ G H out Q s e q => ?_⟩
  refine oa.then s e (EPost.x q) fun ws M1 e1 e0 ι1 G1 H1 vs s1 x1 r1 => ?_
  obtain ⟨ds, h1, rfl⟩ := Option.map_eq_some_iff.mp e1
  have rl := allD_rep r1 h1
  refine ⟨small_line (by rw [Paired.length r1, len _ _ _ _ e0]; exact hl), fun p hp => ?_⟩
  have gw : Grow G1 H1 (upd G1 p (.tup vs)) (upd H1 p (.tup vs)) := Grow.one s1.cr.sub hp _
  exact q ι1 _ _ _ (s1.grow gw) (x1.trans (s1.cr.growE gw)) (.d (.tup (SqT.of upd_same) (rl.mono gw.g)))
theorem de_lst (ha : DA X Wx Z es af) (hl : es.length ≤ 1000 := by decide) : DE X Wx Z (.List es pos) (eLst af) := by
  obtain ⟨⟨ta, pa, oa⟩, len⟩ := ha
  refine ⟨_, pe_lst pa, fun ι M Γ σ G H out Q s e q => ?_⟩
  refine oa.then s e (EPost.x q) fun ws M1 e1 e0 ι1 G1 H1 vs s1 x1 r1 => ?_
  obtain ⟨ds, h1, rfl⟩ := Option.map_eq_some_iff.mp e1
  have rl := allD_rep r1 h1
  refine ⟨small_line (by rw [Paired.length r1, len _ _ _ _ e0]; exact hl), fun p hp => ?_⟩
  have gw : Grow G1 H1 (upd G1 p (.lst vs)) (upd H1 p (.lst vs)) := Grow.one s1.cr.sub hp _
  exact q ι1 _ _ _ (s1.grow gw) (x1.trans (s1.cr.growE gw)) (.d (.lst upd_same (rl.mono gw.g)))
/-- a new cell behind a part -/
theorem SR.newCell (s : SR K Z ι M Γ σ G H) {p : Addr} (hp : H p = none) {o : HO} {x : Cell} (hx : CellOk K G (some o) x) (hxd : x ≠ .dead) : SR K Z (ι ++ [p]) (M ++ [x]) Γ σ G (upd H p o) ∧ Ext Z ι G H (ι ++ [p]) G (upd H p o) := by
  have x1 : Ext Z ι G H (ι ++ [p]) G (upd H p o) := ⟨⟨[p], rfl⟩, Same.refl _, fun a h => upd_ne fun z => s.cr.zh a h (by rw [z]; exact hp)⟩
  exact ⟨s.at x1 (s.cr.newCell hp hx hxd), x1⟩
theorem de_lstC (ha : DA X Wx Z es af) (hl : es.length ≤ 1000 := by decide) : DE X Wx Z (.List es pos) (eLstC af) := by
  obtain ⟨⟨ta, pa, oa⟩, len⟩ := ha
  refine ⟨_, pe_lst pa, fun ι M Γ σ G H out Q s e q => ?_⟩
  refine oa.then s e (EPost.x q) fun ws M1 e1 e0 ι1 G1 H1 vs s1 x1 r1 => ?_
  obtain ⟨ds, h1, rfl⟩ := Option.map_eq_some_iff.mp e1
  have rl := allD_rep r1 h1
  refine ⟨small_line (by rw [Paired.length r1, len _ _ _ _ e0]; exact hl), fun p hp => ?_⟩
  obtain ⟨s2, x2⟩ := s1.newCell hp (CellOk.lst rl) (fun z => nomatch z)
  exact q _ _ _ _ s2 (x1.trans x2) (.r (by rw [← s1.cr.ln]; simp))

/-! ### operators -/
theorem OpS.run {r : R2} {h : D → D → Option D} (hs : OpS X r h) (s : SR X.K Z ι M Γ σ G H) {w w' : W} {x y : V} {out : Out W} {Q : VK} (rx : RW X.K ι G x w) (ry : RW X.K ι G y w')
    (e : ((rd2 h M w w').map fun d => Out.ok (W.d d) M) = some out) (q : EPost X Wx Z ι Γ σ G H Q out) : r x y H Q := by
  obtain ⟨d, h1, rfl⟩ := Option.map_eq_some_iff.mp e
  unfold rd2 at h1
  obtain ⟨da, h2, h1⟩ := Option.bind_eq_some_iff.mp h1
  obtain ⟨db, h3, h1⟩ := Option.bind_eq_some_iff.mp h1
  exact hs G H x y da db d Q s.cr.sub (s.cr.rb rx h2) (s.cr.rb ry h3) h1 fun v G' H' gw rv => q ι G' H' v (s.grow gw) (s.cr.growE gw) (.d rv)
theorem EOk_op {r : R2} {h : D → D → Option D} {ta tb : TE} (hs : OpS X r h) (oa : EOk X Wx Z ta f) (ob : EOk X Wx Z tb g) : EOk X Wx Z (tOp r ta tb) (eOp h f g) := fun ι M Γ σ G H out Q s e q => by
  refine oa.then s e (EPost.x q) fun w M1 e1 ι1 G1 H1 v s1 x1 r1 => ?_
  refine ob.then s1 e1 (EPost.x (q.ext x1)) fun w' M2 e2 ι2 G2 H2 v' s2 x2 r2 => ?_
  exact hs.run s2 (x2.rw r1) r2 e2 (q.ext (x1.trans x2))
theorem de_op {op : Operator} {r : R2} {h : D → D → Option D} (ho : OpR X (binaryOp op) r) (hs : OpS X r h) (ha : DE X Wx Z a f) (hb : DE X Wx Z b g) : DE X Wx Z (.BinOp a op b pos) (eOp h f g) := by
  obtain ⟨ta, pa, oa⟩ := ha
  obtain ⟨tb, pb, ob⟩ := hb
  exact ⟨_, pe_op ho pa pb, EOk_op hs oa ob⟩
theorem de_un {op : UnaryOp} {r : V → Hp → VK → Prop} {h : D → Option D} (ho : UnR X (unaryOp op) r) (hs : UnS X r h) (ha : DE X Wx Z a f) : DE X Wx Z (.UnaryOp op a pos) (eUn h f) := by
  obtain ⟨ta, pa, oa⟩ := ha
  refine ⟨_, pe_un ho pa, fun ι M Γ σ G H out Q s e q => ?_⟩
  refine oa.then s e (EPost.x q) fun w M1 e1 ι1 G1 H1 v s1 x1 r1 => ?_
  obtain ⟨d, h1, rfl⟩ := Option.map_eq_some_iff.mp e1
  obtain ⟨da, h2, h1⟩ := Option.bind_eq_some_iff.mp h1
  exact hs G1 H1 v da d Q s1.cr.sub (s1.cr.rb r1 h2) h1 fun v G' H' gw rv => q ι1 G' H' v (s1.grow gw) (x1.trans (s1.cr.growE gw)) (.d rv)
theorem de_cmp {op : CmpOp} {r : R2} {h : D → D → Option D} (ho : OpR X (compareOp op) r) (hs : OpS X r h) (ha : DE X Wx Z a f) (hb : DE X Wx Z b g) (hm : behindInMarks op b = false := by first | exact nomark _ | rfl) : DE X Wx Z (.Compare a [op] [b] pos) (eOp h f g) := by
  obtain ⟨ta, pa, oa⟩ := ha
  obtain ⟨tb, pb, ob⟩ := hb
  exact ⟨_, pe_cmpR ho pa pb hm, EOk_op hs oa ob⟩
theorem RW.blW {v : V} {w : W} {kk : Bool} (r : RW K ι G v w) (h : blW w = some kk) : v = .bl kk := by
  cases r with
  | d r => cases r <;> first | (cases h; rfl) | (cases h)
  | r _ => cases h
theorem TOk_bl {t : TE} (oa : EOk X Wx Z t f) : TOk X Wx Z (tTest t) (tBl f) := fun ι M Γ σ G H out Q s e q => by
  refine oa.then s e (TPost.x q) fun w M1 e1 ι1 G1 H1 v s1 x1 r1 => ?_
  obtain ⟨kk, h1, rfl⟩ := Option.map_eq_some_iff.mp e1
  exact ⟨kk, r1.blW h1, q ι1 G1 H1 s1 x1⟩
theorem dt_cmp {op : CmpOp} {r : R2} {h : D → D → Option D} (ho : OpR X (compareOp op) r) (hs : OpS X r h) (ha : DE X Wx Z a f) (hb : DE X Wx Z b g) (hm : behindInMarks op b = false := by first | exact nomark _ | rfl) : DT X Wx Z (.Compare a [op] [b] pos) (tBl (eOp h f g)) := by
  obtain ⟨ta, pa, oa⟩ := ha
  obtain ⟨tb, pb, ob⟩ := hb
  exact ⟨_, pt_cmpR ho pa pb hm, TOk_bl (EOk_op hs oa ob)⟩
theorem EOk_chain {r r' : R2} {h h1 : D → D → Option D} {ta tb tc : TE} (hs : OpS X r h) (hs' : OpS X r' h1) (oa : EOk X Wx Z ta f) (ob : EOk X Wx Z tb g) (oc : EOk X Wx Z tc h') : EOk X Wx Z (tChain r r' ta tb tc) (eChain h h1 f g h') := fun ι M Γ σ G H out Q s e q => by
  refine oa.then s e (EPost.x q) fun w M1 e1 ι1 G1 H1 v s1 x1 r1 => ?_
  refine ob.then s1 e1 (EPost.x (q.ext x1)) fun w' M2 e2 ι2 G2 H2 v' s2 x2 r2 => ?_
  obtain ⟨z, hz, e2⟩ := Option.bind_eq_some_iff.mp e2
  have rx2 := x2.rw r1
  refine hs.run (Wx := Wx) (σ := σ) (Γ := Γ) (out := .ok (.d z) M2) s2 rx2 r2 (by rw [hz]; rfl) fun ι3 G3 H3 v3 s3 x3 r3 => ?_
  cases z with
  | bl kk =>
    cases r3 with
    | d r3 =>
      cases r3
      refine ⟨kk, rfl, ?_⟩
      cases kk with
      | false =>
        cases e2
        exact q ι3 G3 H3 _ s3 ((x1.trans x2).trans x3) (.d (.bl false))
      | true =>
        refine oc.then s3 e2 (EPost.x (q.ext ((x1.trans x2).trans x3))) fun w'' M3 e3 ι4 G4 H4 v4 s4 x4 r4 => ?_
        exact hs'.run s4 (x4.rw (x3.rw r2)) r4 e3 (q.ext (((x1.trans x2).trans x3).trans x4))
  | _ => cases e2
theorem de_chain {op op' : CmpOp} {r r' : R2} {h h1 : D → D → Option D} (ho : OpR X (compareOp op) r) (hs : OpS X r h) (ho' : OpR X (compareOp op') r') (hs' : OpS X r' h1) (ha : DE X Wx Z a f) (hb : DE X Wx Z b g) (hc : DE X Wx Z c h')
    (hm : lastMarks [op, op'] [b, c] = false := by with_unfolding_all rfl) : DE X Wx Z (.Compare a [op, op'] [b, c] pos) (eChain h h1 f g h') := by
  obtain ⟨ta, pa, oa⟩ := ha
  obtain ⟨tb, pb, ob⟩ := hb
  obtain ⟨tc, pc, oc⟩ := hc
  exact ⟨_, pe_chain ho ho' pa pb pc hm, EOk_chain hs hs' oa ob oc⟩
theorem dt_chain {op op' : CmpOp} {r r' : R2} {h h1 : D → D → Option D} (ho : OpR X (compareOp op) r) (hs : OpS X r h) (ho' : OpR X (compareOp op') r') (hs' : OpS X r' h1) (ha : DE X Wx Z a f) (hb : DE X Wx Z b g) (hc : DE X Wx Z c h')
    (hm : lastMarks [op, op'] [b, c] = false := by with_unfolding_all rfl) : DT X Wx Z (.Compare a [op, op'] [b, c] pos) (tBl (eChain h h1 f g h')) := by
  obtain ⟨ta, pa, oa⟩ := ha
  obtain ⟨tb, pb, ob⟩ := hb
  obtain ⟨tc, pc, oc⟩ := hc
  exact ⟨_, pt_chain ho ho' pa pb pc hm, TOk_bl (EOk_chain hs hs' oa ob oc)⟩

/-! ### truth -/
theorem truV_of (s : Same G H) {v : V} {d : D} {kk : Bool} (r : RB K G H v d) (h : truthD d = some kk) : TruV K v H kk := by
  cases d with
  | non => rw [r.non]; cases h; rfl
  | bl b => rw [r.bl]; cases h; rfl
  | int i => rw [r.int]; cases h; rfl
  | str x =>
    rw [r.str]
    have h : (if x.length ≤ sizeLine then some ((x.length : Int) != 0) else none) = some kk := h
    split at h
    · cases h; exact ⟨by assumption, rfl⟩
    · cases h
  | lst xs =>
    obtain ⟨a, vs, rfl, h1, h2⟩ := r.asL s
    cases h
    exact .inl ⟨vs, SqL.of h1, by cases h2 <;> rfl⟩
  | rol xs =>
    obtain ⟨a, vs, rfl, h1, h2⟩ := r.asR s
    cases h
    exact .inl ⟨vs, h1, by cases h2 <;> rfl⟩
  | tup xs =>
    obtain ⟨a, vs, rfl, h1, h2⟩ := r.asT s
    cases h
    exact .inr (.inl ⟨vs, h1, by cases h2 <;> rfl⟩)
  | _ => cases h
theorem truW_of (s : SR K Z ι M Γ σ G H) {v : V} {w : W} {kk : Bool} (r : RW K ι G v w) (h : truthW M w = some kk) : TruV K v H kk := by
  obtain ⟨d, h1, h2⟩ := Option.bind_eq_some_iff.mp h
  exact truV_of s.cr.sub (s.cr.rb r h1) h2
theorem dt_tru (ha : DE X Wx Z a f) (he : ∀ whole, isTrue a X.env whole = (do let v ← whole; standAt a.pos; holding [v] (truthy v)) := by intro _; rfl) : DT X Wx Z a (tTru f) := by
  obtain ⟨ta, pa, oa⟩ := ha
  refine ⟨_, pt_truth pa he, fun ι M Γ σ G H out Q s e q => ?_⟩
  refine oa.then s e (TPost.x q) fun w M1 e1 ι1 G1 H1 v s1 x1 r1 => ?_
  obtain ⟨kk, h1, rfl⟩ := Option.map_eq_some_iff.mp e1
  exact ⟨kk, truW_of s1 r1 h1, q ι1 G1 H1 s1 x1⟩
theorem de_or {rest : List Expr} (ha : DE X Wx Z a f) (hb : DE X Wx Z (.BoolOp .Or (b :: rest) pos) g) : DE X Wx Z (.BoolOp .Or (a :: b :: rest) pos) (eOr f g) := by
  obtain ⟨ta, pa, oa⟩ := ha
  obtain ⟨tb, pb, ob⟩ := hb
  refine ⟨_, pe_orT pa pb, fun ι M Γ σ G H out Q s e q => ?_⟩
  refine oa.then s e (EPost.x q) fun w M1 e1 ι1 G1 H1 v s1 x1 r1 => ?_
  obtain ⟨kk, h1, e1⟩ := Option.bind_eq_some_iff.mp e1
  refine ⟨kk, truW_of s1 r1 h1, ?_⟩
  cases kk with
  | true => cases e1; exact iteT (q ι1 G1 H1 v s1 x1 r1)
  | false => exact iteF (ob ι1 M1 Γ σ G1 H1 out Q s1 e1 (q.ext x1))
theorem de_and {rest : List Expr} (ha : DE X Wx Z a f) (hb : DE X Wx Z (.BoolOp .And (b :: rest) pos) g) : DE X Wx Z (.BoolOp .And (a :: b :: rest) pos) (eAnd f g) := by
  obtain ⟨ta, pa, oa⟩ := ha
  obtain ⟨tb, pb, ob⟩ := hb
  refine ⟨_, pe_andT pa pb, fun ι M Γ σ G H out Q s e q => ?_⟩
  refine oa.then s e (EPost.x q) fun w M1 e1 ι1 G1 H1 v s1 x1 r1 => ?_
  obtain ⟨kk, h1, e1⟩ := Option.bind_eq_some_iff.mp e1
  refine ⟨kk, truW_of s1 r1 h1, ?_⟩
  cases kk with
  | false => cases e1; exact iteF (q ι1 G1 H1 v s1 x1 r1)
  | true => exact iteT (ob ι1 M1 Γ σ G1 H1 out Q s1 e1 (q.ext x1))
theorem de_bop1 {op} (ha : DE X Wx Z a f) : DE X Wx Z (.BoolOp op [a] pos) f := by
  obtain ⟨ta, pa, oa⟩ := ha
  exact ⟨_, pe_one pa, oa⟩
theorem de_not (ha : DE X Wx Z a f) : DE X Wx Z (.UnaryOp .Not a pos) (eNot f) := by
  obtain ⟨ta, pa, oa⟩ := ha
  refine ⟨_, pe_notT pa, fun ι M Γ σ G H out Q s e q => ?_⟩
  refine oa.then s e (EPost.x q) fun w M1 e1 ι1 G1 H1 v s1 x1 r1 => ?_
  obtain ⟨kk, h1, rfl⟩ := Option.map_eq_some_iff.mp e1
  exact ⟨kk, truW_of s1 r1 h1, q ι1 G1 H1 _ s1 x1 (.d (.bl _))⟩
theorem de_if (hc : DT X Wx Z c t) (ha : DE X Wx Z a f) (hb : DE X Wx Z b g) : DE X Wx Z (.IfExp c a b pos) (eIf t f g) := by
  obtain ⟨tc, pc, oc⟩ := hc
  obtain ⟨ta, pa, oa⟩ := ha
  obtain ⟨tb, pb, ob⟩ := hb
  refine ⟨_, pe_ifExp pc pa pb, fun ι M Γ σ G H out Q s e q => ?_⟩
  refine oc.then s e (EPost.x q) fun kk M1 e1 ι1 G1 H1 s1 x1 => ?_
  cases kk with
  | true => exact iteT (oa ι1 M1 Γ σ G1 H1 out Q s1 e1 (q.ext x1))
  | false => exact iteF (ob ι1 M1 Γ σ G1 H1 out Q s1 e1 (q.ext x1))
/-! ### tests -/
theorem dt_not (ha : DT X Wx Z a t) : DT X Wx Z (.UnaryOp .Not a pos) (tNot t) := by
  obtain ⟨ta, pa, oa⟩ := ha
  refine ⟨_, pt_not pa, fun ι M Γ σ G H out Q s e q => ?_⟩
  refine oa.then s e (TPost.x q) fun kk M1 e1 ι1 G1 H1 s1 x1 => ?_
  cases e1
  exact q ι1 G1 H1 s1 x1
theorem dw_and1 (ha : DT X Wx Z a t) : DW X Wx Z (.BoolOp .And [a] pos) t := by
  obtain ⟨ta, pa, oa⟩ := ha
  exact ⟨_, pw_and1 pa, oa⟩
theorem dw_or1 (ha : DT X Wx Z a t) : DW X Wx Z (.BoolOp .Or [a] pos) t := by
  obtain ⟨ta, pa, oa⟩ := ha
  exact ⟨_, pw_or1 pa, oa⟩
theorem dw_and {rest : List Expr} (ha : DT X Wx Z a t) (hb : DW X Wx Z (.BoolOp .And (b :: rest) pos) u) : DW X Wx Z (.BoolOp .And (a :: b :: rest) pos) (tAnd t u) := by
  obtain ⟨ta, pa, oa⟩ := ha
  obtain ⟨tb, pb, ob⟩ := hb
  refine ⟨_, pw_and pa pb, fun ι M Γ σ G H out Q s e q => ?_⟩
  refine oa.then s e (TPost.x q) fun kk M1 e1 ι1 G1 H1 s1 x1 => ?_
  cases kk with
  | true => exact iteT (ob ι1 M1 Γ σ G1 H1 out Q s1 e1 (q.ext x1))
  | false => cases e1; exact iteF (q ι1 G1 H1 s1 x1)
theorem dw_or {rest : List Expr} (ha : DT X Wx Z a t) (hb : DW X Wx Z (.BoolOp .Or (b :: rest) pos) u) : DW X Wx Z (.BoolOp .Or (a :: b :: rest) pos) (tOr t u) := by
  obtain ⟨ta, pa, oa⟩ := ha
  obtain ⟨tb, pb, ob⟩ := hb
  refine ⟨_, pw_or pa pb, fun ι M Γ σ G H out Q s e q => ?_⟩
  refine oa.then s e (TPost.x q) fun kk M1 e1 ι1 G1 H1 s1 x1 => ?_
  cases kk with
  | false => exact iteF (ob ι1 M1 Γ σ G1 H1 out Q s1 e1 (q.ext x1))
  | true => cases e1; exact iteT (q ι1 G1 H1 s1 x1)
theorem DW.dt (h : DW X Wx Z a t) : DT X Wx Z a t := by
  obtain ⟨ta, pa, oa⟩ := h
  exact ⟨_, pa.pt, oa⟩
end
end DL

set_option Elab.async false
set_option linter.all false
set_option maxRecDepth 100000
set_option autoImplicit false
set_option maxHeartbeats 1000000
namespace DL
open PySem PySem.Spec PyProof.Rows L2
variable [PWd]
variable {K : PySem.W.Frag} {G G' G'' H H' H'' : Hp} {Z : Addr → Prop} {ι ι' ι'' : List Addr} {M M' : Store} {Γ Γ' : Env} {σ σ' : L2.St}
/-- a def: what it makes of its arguments and the store -/
abbrev FF := List W → Store → Option (Out W)
def FPost (K : PySem.W.Frag) (Z : Addr → Prop) (ι : List Addr) (G H : Hp) (Q : VK) (E : XK) : Out W → Prop
  | .ok w M' => ∀ ι' G' H' v, CRel K Z ι' M' G' H' → Ext Z ι G H ι' G' H' → RW K ι' G' v w → Q v H'
  | .exc x M' => ∀ ι' G' H' c d, CRel K Z ι' M' G' H' → Ext Z ι G H ι' G' H' → XR K G' c d x → E c d H'
def spF (K : PySem.W.Frag) (n : Nat) (F : FF) : Sp := fun vs H Q E => ∃ (Z : Addr → Prop) (ι : List Addr) (M : Store) (G : Hp) (ws : List W) (out : Out W), CRel K Z ι M G H ∧ RWs K ι G vs ws ∧ ws.length = n ∧ F ws M = some out ∧ FPost K Z ι G H Q E out
/-- what a caller hides from a def that is handed data alone -/
def hid (Z : Addr → Prop) (ι : List Addr) (M : Store) : Addr → Prop := fun a => Z a ∨ ∃ i : Nat, ι[i]? = some a ∧ M[i]? ≠ some Cell.dead
theorem CRel.hide (c : CRel K Z ι M G H) : CRel K (hid Z ι M) [] [] G H := by
  refine ⟨rfl, List.nodup_nil, (fun a h => (nomatch h)), c.sub, fun a h => ?_, fun a h => ?_, (fun a h => (nomatch h)), (fun i a h => by simp at h), (fun i a x h => by simp at h), (fun i a h => by simp at h)⟩
  · rcases h with h | ⟨i, h1, h2⟩
    · exact c.zf a h
    · exact c.cf i a h1 h2
  · rcases h with h | ⟨i, h1, h2⟩
    · exact c.zh a h
    · exact c.ch a (List.mem_of_getElem? h1)
theorem CRel.unhide (c : CRel K Z ι M G H) (c' : CRel K (hid Z ι M) ι' M' G' H') (x : Ext (hid Z ι M) [] G H ι' G' H') : CRel K Z ι M G' H' ∧ Ext Z ι G H ι G' H' := by
  refine ⟨⟨c.ln, c.nd, c.dj, c'.sub, fun a h => c'.zf a (.inl h), fun a h => c'.zh a (.inl h), fun a h => ?_, fun i a h1 h2 => c'.zf a (.inr ⟨i, h1, h2⟩), fun i a y h1 h2 => ?_, fun i a h1 h2 => ?_⟩, ⟨⟨[], by simp⟩, x.sm, fun a h => x.zs a (.inl h)⟩⟩
  · obtain ⟨i, hi⟩ := List.mem_iff_getElem?.mp h
    by_cases hd : M[i]? = some Cell.dead
    · obtain ⟨o, q⟩ := Option.ne_none_iff_exists'.mp (c.df i a hi hd)
      rw [c'.sub a o (x.sm a o q)]
      exact fun z => nomatch z
    · exact c'.zh a (.inr ⟨i, hi, hd⟩)
  · by_cases hd : M[i]? = some Cell.dead
    · rw [hd] at h2; cases h2; exact .dead
    · rw [x.zs a (.inr ⟨i, h1, hd⟩)]
      exact (c.ct i a y h1 h2).mono x.sm
  · obtain ⟨o, q⟩ := Option.ne_none_iff_exists'.mp (c.df i a h1 h2)
    rw [x.sm a o q]
    exact fun z => nomatch z
/-- a value that is new may be locked for ever -/
def frzQ (Q : VK) : VK := fun x H1 => Q x H1 ∨ ∃ d u, x = .ref d ∧ H1 d = some u ∧ Mut (some u) ∧ ∀ od, Q x (upd H1 d (.frz od u))
theorem pe_frz {X : Cx} {e : Expr} {t : TE} (h : PE X e t) : PE X e (fun σ H Q => t σ H (frzQ Q)) := by
  refine ⟨fun pins s σ H Q I hw => ?_⟩
  refine thn (h.run pins s σ H _ I hw) fun v s1 ⟨x, H1, I1, r, q⟩ => ?_
  rcases q with q | ⟨d, u, rfl, hd, mu, q⟩
  · exact ⟨x, H1, I1, r, q⟩
  · obtain ⟨od, I2⟩ := I1.lock hd mu
    exact ⟨_, _, I2, r, q od⟩
/-- what a def hands back, as data: a cell of its own is frozen -/
theorem CRel.frz (c : CRel K Z ι M G H) {v : V} {w : W} {d : D} (r : RW K ι G v w) (h : rd M w = some d) {Q : VK}
    (q : ∀ i G' H', CRel K Z ι (M.set i .dead) G' H' ∨ CRel K Z ι M G' H' → (w = .r i ∨ ∃ y, w = .d y) → Same G G' → (∀ a, Z a → H' a = H a) → Rep K G' v d → Q v H') : frzQ Q v H := by
  cases r with
  | d r => cases h; exact .inl (q 0 G H (.inr c) (.inr ⟨_, rfl⟩) (Same.refl _) (fun _ _ => rfl) r)
  | @r a i hi =>
    have h : rdC M[i]? = some d := h
    cases e : M[i]? with
    | none => rw [e] at h; cases h
    | some y =>
      rw [e] at h
      have ok := c.ct i a y hi e
      have live : M[i]? ≠ some Cell.dead := fun z => by rw [z] at e; cases e; cases h
      generalize ho : H a = o at ok
      cases ok with
      | dead => cases h
      | lst r =>
        cases h
        obtain ⟨c', sm⟩ := c.freeze hi ho
        exact .inl (q i _ _ (.inl c') (.inl rfl) (sm live) (fun _ _ => rfl) (.lst upd_same (r.mono (sm live))))
      | dic r =>
        cases h
        refine .inr ⟨a, _, rfl, ho, trivial, fun od => ?_⟩
        obtain ⟨c', sm⟩ := c.freezeD (o := .frz od _) hi ho live
        exact q i _ _ (.inl c') (.inl rfl) sm (fun b hb => upd_ne fun z => c.dj a (List.mem_of_getElem? hi) (by rw [← z]; exact hb)) (.dic upd_same (r.mono sm))
      | ins r =>
        cases h
        obtain ⟨c', sm⟩ := c.freeze hi ho
        exact .inl (q i _ _ (.inl c') (.inl rfl) (sm live) (fun _ _ => rfl) (.ins upd_same (r.mono (sm live))))

/-! ### calls -/
/-- a def that is handed data and hands back data: its store is its own -/
def runP (F : FF) (ds : List D) : Option (Out D) := match F (ds.map .d) [] with
  | none => none
  | some (.ok w M') => (rd M' w).map fun d => .ok d []
  | some (.exc x _) => some (.exc x [])
def liftP (o : Option (Out D)) (M : Store) : Option (Out W) := match o with
  | none => none
  | some (.ok d _) => some (.ok (.d d) M)
  | some (.exc x _) => some (.exc x M)
def eCallP (F : FF) (f : AF) : EF := fun Γ M => bnd (f Γ M) fun ws M1 => (allD ws).bind fun ds => liftP (runP F ds) M1
/-- a def that is handed cells, too -/
def eCallI (F : FF) (f : AF) : EF := fun Γ M => bnd (f Γ M) fun ws M1 => F ws M1
/-- .. and hands back data, its own cells forgotten -/
def cutF (n : Nat) (o : Option (Out W)) : Option (Out W) := match o with
  | none => none
  | some (.ok (.d x) M') => some (.ok (.d x) (M'.take n))
  | some (.ok (.r i) M') => if n ≤ i then (rd M' (.r i)).map fun d => .ok (.d d) (M'.take n) else none
  | some (.exc x M') => some (.exc x (M'.take n))
def eCallF (F : FF) (f : AF) : EF := fun Γ M => bnd (f Γ M) fun ws M1 => cutF M1.length (F ws M1)
theorem allD_map : ∀ {ws : List W} {ds : List D}, allD ws = some ds → ws = ds.map .d
  | [], _, h => by cases h; rfl
  | .d x :: r, _, h => by
    unfold allD at h
    obtain ⟨l, hl, rfl⟩ := Option.map_eq_some_iff.mp h
    rw [allD_map hl]; rfl
  | .r _ :: _, _, h => nomatch (show none = some _ from h)
theorem RWs.ofD {ds : List D} : ∀ {vs : List V} {l : List Addr}, RepL K G vs ds → RWs K l G vs (ds.map .d) := by
  induction ds with
  | nil => intro vs l h; cases h; exact .nil
  | cons d ds ih => intro vs l h; cases h with
    | cons r t => exact .cons (.d r) (ih t)
section
variable {P : Program} {w : World} {mg : Str → Option Value} {base : Heap}
variable {X : Cx} {N : List Str} {sc : Scope} {Wx : WX} {k kk n : Nat} {a b c e : Expr} {es : List Expr} {f g h' : EF} {t u : TF} {af : AF} {pos p : Pos} {F : FF} {fa : Addr} {fd : FuncData} {ps : List Str} {x : Str}
/-- the promise of a def that is handed data -/
theorem sp_callP (s : SR X.K Z ι M Γ σ G H) {vs : List V} {ds : List D} {out : Out W} {Q : VK} (rl : RepL X.K G vs ds) (hn : ds.length = n) (e : liftP (runP F ds) M = some out) (q : EPost X Wx Z ι Γ σ G H Q out) :
    spF X.K n F vs H (frzQ Q) (fun c d H' => Wx c d σ H') := by
  unfold runP at e
  cases z : F (ds.map .d) [] with
  | none => rw [z] at e; cases e
  | some o =>
    rw [z] at e
    refine ⟨hid Z ι M, [], [], G, ds.map .d, o, s.cr.hide, RWs.ofD rl, by rw [List.length_map]; exact hn, z, ?_⟩
    cases o with
    | ok w M' =>
      intro ι' G' H' v c' x' r'
      cases z2 : rd M' w with
      | none => simp only [z2] at e; cases e
      | some d =>
        simp only [z2] at e
        cases e
        refine c'.frz r' z2 fun i G2 H2 c2 _ sm zs r2 => ?_
        have x2 : Ext (hid Z ι M) [] G H ι' G2 H2 := ⟨x'.pre, x'.sm.trans sm, fun a h => (zs a h).trans (x'.zs a h)⟩
        obtain ⟨M2, c2⟩ : ∃ M2, CRel X.K (hid Z ι M) ι' M2 G2 H2 := c2.elim (fun c => ⟨_, c⟩) fun c => ⟨_, c⟩
        obtain ⟨c3, x3⟩ := s.cr.unhide c2 x2
        exact q ι G2 H2 v (s.at x3 c3) x3 (.d r2)
    | exc xx M' =>
      intro ι' G' H' c d c' x' r'
      cases e
      obtain ⟨c3, x3⟩ := s.cr.unhide c' x'
      exact q ι G' H' c d (s.at x3 c3) x3 r'
theorem sp_callI (s : SR X.K Z ι M Γ σ G H) {vs : List V} {ws : List W} {out : Out W} {Q : VK} (rl : RWs X.K ι G vs ws) (hn : ws.length = n) (e : F ws M = some out) (q : EPost X Wx Z ι Γ σ G H Q out) :
    spF X.K n F vs H Q (fun c d H' => Wx c d σ H') := by
  refine ⟨Z, ι, M, G, ws, out, s.cr, rl, hn, e, ?_⟩
  cases out with
  | ok w M' => exact fun ι' G' H' v c' x' r' => q ι' G' H' v (s.at x' c') x' r'
  | exc xx M' => exact fun ι' G' H' c d c' x' r' => q ι' G' H' c d (s.at x' c') x' r'
theorem SR.cut {M' : Store} (s : SR K Z ι M Γ σ G H) (x : Ext Z ι G H ι' G' H') (c : CRel K Z ι' M' G' H') : SR K Z ι (M'.take M.length) Γ σ G' H' ∧ Ext Z ι G H ι G' H' := by
  obtain ⟨l, rfl⟩ := x.pre
  have c2 := c.trim M.length
  rw [← s.cr.ln, List.take_left, s.cr.ln] at c2
  have x2 : Ext Z ι G H ι G' H' := ⟨⟨[], by simp⟩, x.sm, x.zs⟩
  exact ⟨s.at x2 c2, x2⟩
theorem sp_callF (s : SR X.K Z ι M Γ σ G H) {vs : List V} {ws : List W} {out : Out W} {Q : VK} (rl : RWs X.K ι G vs ws) (hn : ws.length = n) (e : cutF M.length (F ws M) = some out) (q : EPost X Wx Z ι Γ σ G H Q out) :
    spF X.K n F vs H (frzQ Q) (fun c d H' => Wx c d σ H') := by
  cases z : F ws M with
  | none => rw [z] at e; cases e
  | some o =>
    rw [z] at e
    refine ⟨Z, ι, M, G, ws, o, s.cr, rl, hn, z, ?_⟩
    cases o with
    | exc xx M' =>
      cases e
      intro ι' G' H' c d c' x' r'
      obtain ⟨s2, x2⟩ := s.cut x' c'
      exact q ι G' H' c d s2 x2 r'
    | ok w M' =>
      intro ι' G' H' v c' x' r'
      cases w with
      | d xx =>
        cases e
        obtain ⟨s2, x2⟩ := s.cut x' c'
        cases r' with
        | d r' => exact .inl (q ι G' H' v s2 x2 (.d r'))
      | r i =>
        have e : (if M.length ≤ i then (rd M' (.r i)).map fun d => Out.ok (W.d d) (M'.take M.length) else none) = some out := e
        by_cases hi : M.length ≤ i
        · rw [if_pos hi] at e
          obtain ⟨d, hd, rfl⟩ := Option.map_eq_some_iff.mp e
          refine c'.frz r' hd fun j G2 H2 c2 hw sm zs r2 => ?_
          have x3 : Ext Z ι G H ι' G2 H2 := ⟨x'.pre, x'.sm.trans sm, fun a h => (zs a h).trans (x'.zs a h)⟩
          rcases c2 with c2 | c2
          · have ej : j = i := by
              rcases hw with hw | ⟨_, hw⟩
              · cases hw; rfl
              · cases hw
            obtain ⟨s2, x2⟩ := s.cut x3 c2
            rw [ej, List.take_set_of_le hi] at s2
            exact q ι _ _ _ s2 x2 (.d r2)
          · obtain ⟨s2, x2⟩ := s.cut x3 c2
            exact q ι _ _ _ s2 x2 (.d r2)
        · rw [if_neg hi] at e
          cases e
theorem de_callP (C : Ctx P w K mg base X N sc Wx k) (Fo : FnG P w K mg base (L2.CX P w) kk fa fd ps (spF K n F)) (hk : kk ≤ k) (hm : mg x = some (.ref fa)) (kp : PySem.W.keepIn K (.ref fa) = true) (hb : Binds K fd ps []) (ha : DA X Wx Z (e :: es) af) (hn : (e :: es).length = n := by rfl)
    (hg : sc.names.lookup x = some .globalImplicit := by rfl) (hdb : (x == ("__debug__" : Str)) = false := by decide) (he : starEach (e :: es) X.env = (false, eval e X.env) :: starEach es X.env := by rfl) (hpl : (backTo pos (starEach es X.env)).any (·.1) = false := by rfl) :
    DE X Wx Z (.Call (.Name x p) (e :: es) [] pos) (eCallP F af) := by
  obtain ⟨⟨ta, pa, oa⟩, len⟩ := ha
  have hg := C.g hg
  have room := C.room
  have gd := C.gd
  have tk := C.tk
  obtain ⟨rfl, rfl, rfl, rfl, rfl, _⟩ := C
  refine ⟨_, pe_frz (pe_callG (E := WE Wx) Fo (room.mono hk) gd hg hm kp hb (passAt tk) pa hdb he hpl), fun ι M Γ σ G H out Q s e q => ?_⟩
  refine oa.then s e (EPost.x q) fun ws M1 e1 e0 ι1 G1 H1 vs s1 x1 r1 => ?_
  obtain ⟨ds, hd, e2⟩ := Option.bind_eq_some_iff.mp e1
  exact sp_callP s1 (allD_rep r1 hd) (by rw [← hn, ← len _ _ _ _ e0, allD_map hd, List.length_map]) e2 (q.ext x1)
theorem de_callI (C : Ctx P w K mg base X N sc Wx k) (Fo : FnG P w K mg base (L2.CX P w) kk fa fd ps (spF K n F)) (hk : kk ≤ k) (hm : mg x = some (.ref fa)) (kp : PySem.W.keepIn K (.ref fa) = true) (hb : Binds K fd ps []) (ha : DA X Wx Z (e :: es) af) (hn : (e :: es).length = n := by rfl)
    (hg : sc.names.lookup x = some .globalImplicit := by rfl) (hdb : (x == ("__debug__" : Str)) = false := by decide) (he : starEach (e :: es) X.env = (false, eval e X.env) :: starEach es X.env := by rfl) (hpl : (backTo pos (starEach es X.env)).any (·.1) = false := by rfl) :
    DE X Wx Z (.Call (.Name x p) (e :: es) [] pos) (eCallI F af) := by
  obtain ⟨⟨ta, pa, oa⟩, len⟩ := ha
  have hg := C.g hg
  have room := C.room
  have gd := C.gd
  have tk := C.tk
  obtain ⟨rfl, rfl, rfl, rfl, rfl, _⟩ := C
  refine ⟨_, pe_callG (E := WE Wx) Fo (room.mono hk) gd hg hm kp hb (passAt tk) pa hdb he hpl, fun ι M Γ σ G H out Q s e q => ?_⟩
  refine oa.then s e (EPost.x q) fun ws M1 e1 e0 ι1 G1 H1 vs s1 x1 r1 => ?_
  exact sp_callI s1 r1 (by rw [← hn]; exact len _ _ _ _ e0) e1 (q.ext x1)
theorem de_callF (C : Ctx P w K mg base X N sc Wx k) (Fo : FnG P w K mg base (L2.CX P w) kk fa fd ps (spF K n F)) (hk : kk ≤ k) (hm : mg x = some (.ref fa)) (kp : PySem.W.keepIn K (.ref fa) = true) (hb : Binds K fd ps []) (ha : DA X Wx Z (e :: es) af) (hn : (e :: es).length = n := by rfl)
    (hg : sc.names.lookup x = some .globalImplicit := by rfl) (hdb : (x == ("__debug__" : Str)) = false := by decide) (he : starEach (e :: es) X.env = (false, eval e X.env) :: starEach es X.env := by rfl) (hpl : (backTo pos (starEach es X.env)).any (·.1) = false := by rfl) :
    DE X Wx Z (.Call (.Name x p) (e :: es) [] pos) (eCallF F af) := by
  obtain ⟨⟨ta, pa, oa⟩, len⟩ := ha
  have hg := C.g hg
  have room := C.room
  have gd := C.gd
  have tk := C.tk
  obtain ⟨rfl, rfl, rfl, rfl, rfl, _⟩ := C
  refine ⟨_, pe_frz (pe_callG (E := WE Wx) Fo (room.mono hk) gd hg hm kp hb (passAt tk) pa hdb he hpl), fun ι M Γ σ G H out Q s e q => ?_⟩
  refine oa.then s e (EPost.x q) fun ws M1 e1 e0 ι1 G1 H1 vs s1 x1 r1 => ?_
  exact sp_callF s1 r1 (by rw [← hn]; exact len _ _ _ _ e0) e1 (q.ext x1)
end

/-! ### statements -/
section
variable {P : Program} {w : World} {mg : Str → Option Value} {base : Heap}
variable {X : Cx} {N : List Str} {sc : Scope} {Wx : WX} {k : Nat} {a b c e : Expr} {f g : EF} {t : TF} {u v : SF} {st : Stmt} {rest p q : List Stmt} {pos : Pos}
theorem bndS_some {α : Type} {x : Option (Out α)} {kf : α → Store → Option SO} {o : SO} (h : bndS Γ x kf = some o) : (∃ a M, x = some (.ok a M) ∧ kf a M = some o) ∨ ∃ e M, x = some (.exc e M) ∧ o = .ex e Γ M := by
  cases x with
  | none => cases h
  | some y => cases y with
    | ok a M => exact .inl ⟨a, M, rfl, h⟩
    | exc e M => cases h; exact .inr ⟨e, M, rfl, rfl⟩
theorem SPost.x {D : Ends} {o : SO} (h : SPost X Wx Z ι G H D o) : ∀ x M', o = .ex x Γ M' → XPost X Wx Z ι Γ σ G H x M' := fun x M' e => by
  subst e
  exact fun ι' G' H' c d s x r => h ι' G' H' σ c d s x r
theorem EOk.thenS {t : TE} {f : EF} (h : EOk X Wx Z t f) {Q : VK} {kf : W → Store → Option SO} {out : SO} {D : Ends} (s : SR X.K Z ι M Γ σ G H) (e : bndS Γ (f Γ M) kf = some out) (q : SPost X Wx Z ι G H D out)
    (hq : ∀ w M1, kf w M1 = some out → ∀ ι' G' H' v, SR X.K Z ι' M1 Γ σ G' H' → Ext Z ι G H ι' G' H' → RW X.K ι' G' v w → Q v H') : t σ H Q := by
  rcases bndS_some e with ⟨w, M1, e1, e2⟩ | ⟨x, M1, e1, e2⟩
  · exact h ι M Γ σ G H _ Q s e1 (hq w M1 e2)
  · exact h ι M Γ σ G H _ Q s e1 (SPost.x q x M1 e2)
theorem TOk.thenS {t : TT} {f : TF} (h : TOk X Wx Z t f) {Q : Bool → Hp → Prop} {kf : Bool → Store → Option SO} {out : SO} {D : Ends} (s : SR X.K Z ι M Γ σ G H) (e : bndS Γ (f Γ M) kf = some out) (q : SPost X Wx Z ι G H D out)
    (hq : ∀ w M1, kf w M1 = some out → ∀ ι' G' H', SR X.K Z ι' M1 Γ σ G' H' → Ext Z ι G H ι' G' H' → Q w H') : t σ H Q := by
  rcases bndS_some e with ⟨w, M1, e1, e2⟩ | ⟨x, M1, e1, e2⟩
  · exact h ι M Γ σ G H _ Q s e1 (hq w M1 e2)
  · exact h ι M Γ σ G H _ Q s e1 (SPost.x q x M1 e2)
theorem dss_nil : DSs X Wx Z [] sNx := ⟨_, pss_nil, fun ι M Γ σ G H out D s e q => by
  cases e
  exact q ι G H σ s Ext.refl⟩
theorem SOk_seq {tu tv : TS} (ou : SOk X Wx Z tu u) (ov : SOk X Wx Z tv v) : SOk X Wx Z (tSeq tu tv) (sSeq u v) := fun ι M Γ σ G H out D s e q => by
  unfold sSeq at e
  cases z : u Γ M with
  | none => rw [z] at e; cases e
  | some o =>
    rw [z] at e
    refine ou ι M Γ σ G H o _ s z ?_
    cases o with
    | nx Γ1 M1 => exact fun ι1 G1 H1 σ1 s1 x1 => ov ι1 M1 Γ1 σ1 G1 H1 out D s1 e (q.ext x1)
    | rt w M1 => cases e; exact q
    | bk Γ1 M1 => cases e; exact q
    | ct Γ1 M1 => cases e; exact q
    | ex x Γ1 M1 => cases e; exact q
theorem dss_cons (h1 : DS X Wx Z st u) (h2 : DSs X Wx Z rest v) : DSs X Wx Z (st :: rest) (sSeq u v) := by
  obtain ⟨tu, pu, ou⟩ := h1
  obtain ⟨tv, pv, ov⟩ := h2
  exact ⟨_, pss_cons pu pv, SOk_seq ou ov⟩
theorem dss_one (h1 : DS X Wx Z st u) : DSs X Wx Z [st] u := by
  obtain ⟨tu, pu, ou⟩ := h1
  exact ⟨_, pss_one pu, ou⟩
theorem ds_pass : DS X Wx Z (.Pass pos) sNx := ⟨_, ps_pass, fun ι M Γ σ G H out D s e q => by
  cases e
  exact q ι G H σ s Ext.refl⟩
theorem ds_break : DS X Wx Z (.Break pos) sBrk := ⟨_, ps_break, fun ι M Γ σ G H out D s e q => by
  cases e
  exact q ι G H σ s Ext.refl⟩
theorem ds_continue : DS X Wx Z (.Continue pos) sCnt := ⟨_, ps_continue, fun ι M Γ σ G H out D s e q => by
  cases e
  exact q ι G H σ s Ext.refl⟩
theorem ds_doc {x j pos'} : DS X Wx Z (.Expr (.Constant (.str x) j pos) pos') sNx := ⟨_, ps_doc, fun ι M Γ σ G H out D s e q => by
  cases e
  exact q ι G H σ s Ext.refl⟩
theorem ds_if (hc : DT X Wx Z c t) (ha : DSs X Wx Z p u) (hb : DSs X Wx Z q v) : DS X Wx Z (.If c p q pos) (sIf t u v) := by
  obtain ⟨tc, pc, oc⟩ := hc
  obtain ⟨tu, pu, ou⟩ := ha
  obtain ⟨tv, pv, ov⟩ := hb
  refine ⟨_, ps_if pc pu pv, fun ι M Γ σ G H out D s e q => ?_⟩
  refine oc.thenS s e q fun kk M1 e1 ι1 G1 H1 s1 x1 => ?_
  cases kk with
  | true => exact iteT (ou ι1 M1 Γ σ G1 H1 out D s1 e1 (q.ext x1))
  | false => exact iteF (ov ι1 M1 Γ σ G1 H1 out D s1 e1 (q.ext x1))
theorem ds_ret (ha : DE X Wx Z a f) : DS X Wx Z (.Return (some a) pos) (sRet f) := by
  obtain ⟨ta, pa, oa⟩ := ha
  refine ⟨_, ps_ret pa, fun ι M Γ σ G H out D s e q => ?_⟩
  refine oa.thenS s e q fun w M1 e1 ι1 G1 H1 v s1 x1 r1 => ?_
  cases e1
  exact q ι1 G1 H1 v s1.cr x1 r1
theorem ds_retN : DS X Wx Z (.Return none pos) sRetN := ⟨_, ps_retN, fun ι M Γ σ G H out D s e q => by
  cases e
  exact q ι G H .non s.cr Ext.refl (.d .non)⟩
theorem ds_expr (ha : DE X Wx Z a f) (hs : swapsWith a none pos.line X.env = pure false := by rfl) : DS X Wx Z (.Expr a pos) (sExpr f) := by
  obtain ⟨ta, pa, oa⟩ := ha
  refine ⟨_, ps_expr pa hs, fun ι M Γ σ G H out D s e q => ?_⟩
  refine oa.thenS s e q fun w M1 e1 ι1 G1 H1 v s1 x1 r1 => ?_
  cases e1
  exact q ι1 G1 H1 σ s1 x1
/-- an own name, in the scope that runs and the one that is written -/
def LocO (sc so : Scope) (x : Str) : Prop := sc.names.lookup x = some .local ∨ (sc.names.lookup x = some .cell ∧ so.names.lookup x = some .cell)
theorem LocO.loc {so : Scope} {x : Str} (h : LocO sc so x) : Loc sc x := h.imp id (·.1)
theorem Ctx.loc (C : Ctx P w K mg base X N sc Wx k) {x : Str} (hx : Loc sc x) : Loc X.env.scope x := by rw [C.hs]; exact hx
theorem Ctx.storeOk (C : Ctx P w K mg base X N sc Wx k) {so : Scope} (F : Fx X so) {x : Str} (hx : LocO sc so x) : X.fn x = true ∨ X.env.scope.names.lookup x = some .local := by
  rcases hx with h | h
  · exact .inr (C.g h)
  · exact .inl (F.fn x h.2)
theorem ds_set (C : Ctx P w K mg base X N sc Wx k) {so : Scope} (F : Fx X so) (i : Nat) {x : Str} {pos' : Pos} (he : DE X Wx Z e f) (hi : N[i]? = some x := by rfl) (hx : LocO sc so x := by first | exact Or.inl rfl | exact Or.inr ⟨rfl, rfl⟩) (hs : swapsWith e (some (.Name x pos')) pos.line X.env = pure false := by rfl) :
    DS X Wx Z (.Assign [.Name x pos'] e pos) (sSet i f) := by
  obtain ⟨ta, pa, oa⟩ := he
  refine ⟨_, ps_set (i := i) (by rw [C.hN]; exact C.nd) (by rw [C.hN]; exact hi) (C.loc hx.loc) pa hs (C.storeOk F hx), fun ι M Γ σ G H out D s e q => ?_⟩
  refine oa.thenS s e q fun w M1 e1 ι1 G1 H1 v s1 x1 r1 => ?_
  cases e1
  exact q ι1 G1 H1 _ (s1.set i r1) x1
/-- what is never reached -/
def sNever : SF := fun _ _ => none
theorem ds_never : DS X Wx Z st sNever := ⟨_, ps_never, fun ι M Γ σ G H out D s e q => by cases e⟩
end

/-! ### a def's body -/
/-- the frame at the entry -/
def startG (N : List Str) (ws : List W) : Env := ws.map some ++ List.replicate (N.length - ws.length) none
def runB (N : List Str) (u : SF) : FF := fun ws M => match u (startG N ws) M with
  | none => none
  | some (.nx _ M') => some (.ok (.d .non) M')
  | some (.rt w M') => some (.ok w M')
  | some (.ex x _ M') => some (.exc x M')
  | some _ => none
theorem SR.start {N : List Str} (c : CRel K Z ι M G H) {vs : List V} {ws : List W} (r : RWs K ι G vs ws) : SR K Z ι M (startG N ws) (start N vs) G H := by
  have hl := Paired.length r
  refine ⟨c, fun i w h => ?_, by simp [startG, L2.start, hl]⟩
  unfold startG at h
  by_cases hi : i < ws.length
  · rw [List.getElem?_append_left (by simpa using hi), List.getElem?_map] at h
    cases e : ws[i]? with
    | none => rw [e] at h; cases h
    | some y =>
      rw [e] at h
      cases h
      have get : ∀ {vs : List V} {ws : List W} {i : Nat} {y : W}, RWs K ι G vs ws → ws[i]? = some y → ∃ v, vs[i]? = some v ∧ RW K ι G v y := by
        intro vs ws i y r
        induction r generalizing i with
        | nil => intro h; simp at h
        | cons a t ih => cases i with
          | zero => intro h; simp at h; subst h; exact ⟨_, rfl, a⟩
          | succ i => intro h; simp at h; obtain ⟨v, h1, h2⟩ := ih h; exact ⟨v, by simpa using h1, h2⟩
      obtain ⟨v, h1, h2⟩ := get r e
      refine ⟨v, ?_, h2⟩
      unfold L2.start
      rw [List.getElem?_append_left (by simp [hl]; exact hi), List.getElem?_map, h1]
      rfl
  · rw [List.getElem?_append_right (by simpa using hi), List.getElem?_replicate] at h
    split at h <;> cases h
section
variable {P : Program} {w : World} {mg : Str → Option Value} {base : Heap}
/-- the context of a def's body -/
theorem Ctx.body (hpP : PWd.P = P) (hpw : PWd.w = w) {N ps : List Str} {qual : Str} {sc : Scope} {f : Addr} {cdv : Value} {A : Around} {outer : List PySem.Env} {s : Shared} {H : Hp} {E : XK} {k : Nat} (S : FnScope N ps sc) (hr : Room k (A.deeper (envOfC qual sc s.heap.objs.size f cdv))) (gd : Gd A) :
    Ctx P w K mg base (cxOf (L2.CX P w) P w K mg base N qual sc f cdv A outer s H E) N sc (fun c d _ H' => E c d H') k :=
  ⟨rfl, rfl, rfl, rfl, rfl, hpP, hpw, rfl, S.nd, rfl, rfl, takes_of rfl rfl rfl rfl, hr, gd⟩
/-- how the frame stands, for loops and try -/
structure Px (X : Cx) : Prop where
  po : PassesOwn (model X.prog X.w) X.A X.env X.xe
  st : X.stack = X.env :: X.outer
  fr : X.env.frame = some X.env.locals
theorem FnOk_of (hpP : PWd.P = P) (hpw : PWd.w = w) {x qual : Str} {F : He.DefD} {f : Addr} {fd : FuncData} {N ps : List Str} {k : Nat} {body : List Stmt} {sc : Scope} {u : SF} {n : Nat}
    (Fo : ∀ {sp : Sp}, (∀ vs H Q E, sp vs H Q E → vs.length = ps.length) → (∀ (cdv : Value) (A : Around) (outer : List PySem.Env) (s : Shared) (H : Hp) (vs : List V) (Q : VK) (E : XK), Room k (A.deeper (envOfC qual sc s.heap.objs.size f cdv)) → Gd A → sp vs H Q E →
      ∃ t, PSs (cxOf (L2.CX P w) P w K mg base N qual sc f cdv A outer s H E) body t ∧ t { nx := fun _ H' => Q .non H', rt := Q } (start N vs) H) → FnG P w K mg base (L2.CX P w) (k + 1) f fd ps sp)
    (S : FnScope N ps sc) (hn : ps.length = n)
    (body_ : ∀ (X : Cx) (Wx : WX) (Z : Addr → Prop), Ctx P w K mg base X N sc Wx k → Fx X sc → Px X → DSs X Wx Z body u) :
    FnG P w K mg base (L2.CX P w) (k + 1) f fd ps (spF K n (runB N u)) := by
  refine Fo (fun vs H Q E h => ?_) fun cdv A outer s H vs Q E hr gd h => ?_
  · obtain ⟨_, _, _, _, ws, _, _, r, hl, _⟩ := h
    rw [Paired.length r, hl, hn]
  · obtain ⟨Z, ι, M, G, ws, out, c, r, hl, e, q⟩ := h
    obtain ⟨t, pt, ot⟩ := body_ (cxOf (L2.CX P w) P w K mg base N qual sc f cdv A outer s H E) _ Z (Ctx.body hpP hpw S hr gd) ⟨fun _ _ => rfl⟩ ⟨passes_of rfl, rfl, rfl⟩
    refine ⟨t, pt, ?_⟩
    unfold runB at e
    cases z : u (startG N ws) M with
    | none => rw [z] at e; cases e
    | some o =>
      rw [z] at e
      refine ot ι M _ _ G H o _ (SR.start c r) z ?_
      cases o with
      | nx Γ1 M1 => cases e; exact fun ι1 G1 H1 σ1 s1 x1 => q ι1 G1 H1 .non s1.cr x1 (.d .non)
      | rt w1 M1 => cases e; exact fun ι1 G1 H1 v c1 x1 r1 => q ι1 G1 H1 v c1 x1 r1
      | ex x1 Γ1 M1 => cases e; exact fun ι1 G1 H1 σ1 c d s1 x1 r1 => q ι1 G1 H1 c d s1.cr x1 r1
      | bk _ _ => cases e
      | ct _ _ => cases e
end
end DL

set_option Elab.async false
set_option linter.all false
set_option maxRecDepth 100000
set_option autoImplicit false
set_option maxHeartbeats 1000000
namespace DL
open PySem PySem.Spec PyProof.Rows L2
variable [PWd]
variable {K : PySem.W.Frag} {G G' G'' H H' H'' : Hp} {Z : Addr → Prop} {ι ι' ι'' : List Addr} {M M' : Store} {Γ Γ' : Env} {σ σ' : L2.St}
/-! ### targets -/
abbrev GF := D → Env → Option Env
abbrev GFs := List D → Env → Option Env
def gNm (i : Nat) : GF := fun d Γ => some (Γ.set i (some (.d d)))
def gTp (n : Nat) (g : GFs) : GF := fun d Γ => match d with
  | .tup ds => if ds.length = n then g ds Γ else none
  | _ => none
def gsNil : GFs := fun ds Γ => match ds with
  | [] => some Γ
  | _ => none
def gsCons (g : GF) (h : GFs) : GFs := fun ds Γ => match ds with
  | d :: r => (g d Γ).bind (h r)
  | [] => none
/-- only the slots ts were written -/
def Only (ts : List Nat) (σ σ' : L2.St) : Prop := σ'.length = σ.length ∧ ∀ j, j ∉ ts → σ'[j]? = σ[j]?
section
variable (X : Cx) (Z : Addr → Prop)
/-- a target: what it writes (the slots ts) -/
structure DG (tg : Expr) (f : GF) (ts : List Nat) : Prop where
  ex : ∃ g, PG X tg g ∧ ∀ d v ι M Γ σ G H Γ' (Q : L2.St → Hp → Prop), SR X.K Z ι M Γ σ G H → Rep X.K G v d → f d Γ = some Γ' → (∀ σ', SR X.K Z ι M Γ' σ' G H → Only ts σ σ' → Q σ' H) → g v σ H Q
structure DGs (tgs : List Expr) (f : GFs) (ts : List Nat) : Prop where
  ex : ∃ g, PGs X tgs g ∧ ∀ ds vs ι M Γ σ G H Γ' (Q : L2.St → Hp → Prop), SR X.K Z ι M Γ σ G H → RepL X.K G vs ds → f ds Γ = some Γ' → (∀ σ', SR X.K Z ι M Γ' σ' G H → Only ts σ σ' → Q σ' H) → g vs σ H Q
end
section
variable {P : Program} {w : World} {mg : Str → Option Value} {base : Heap}
variable {X : Cx} {N : List Str} {sc : Scope} {Wx : WX} {k : Nat} {e : Expr} {es : List Expr} {pos : Pos} {g : GF} {gs : GFs}
theorem dg_name (C : Ctx P w K mg base X N sc Wx k) {so : Scope} (F : Fx X so) (i : Nat) {x : Str} (hi : N[i]? = some x := by rfl) (hx : LocO sc so x := by first | exact Or.inl rfl | exact Or.inr ⟨rfl, rfl⟩) : DG X Z (.Name x pos) (gNm i) [i] := by
  refine ⟨_, pg_name (i := i) (by rw [C.hN]; exact C.nd) (by rw [C.hN]; exact hi) (C.loc hx.loc) (C.storeOk F hx), fun d v ι M Γ σ G H Γ' Q s r h q => ?_⟩
  cases h
  exact q _ (s.set i (.d r)) ⟨List.length_set .., fun j hj => List.getElem?_set_ne fun z => hj (by rw [z]; exact List.mem_singleton_self _)⟩
theorem dgs_nil : DGs X Z [] gsNil [] := by
  refine ⟨_, pgs_nil, fun ds vs ι M Γ σ G H Γ' Q s r h q => ?_⟩
  cases ds with
  | nil => cases h; cases r; exact ⟨rfl, q σ s ⟨rfl, fun _ _ => rfl⟩⟩
  | cons d ds => cases h
theorem dgs_cons {ts us : List Nat} (h1 : DG X Z e g ts) (h2 : DGs X Z es gs us) (hs : (assignEach (e :: es) X.env).map (·.2) = assign e X.env :: (assignEach es X.env).map (·.2) := by rfl) : DGs X Z (e :: es) (gsCons g gs) (ts ++ us) := by
  obtain ⟨t1, p1, o1⟩ := h1
  obtain ⟨t2, p2, o2⟩ := h2
  refine ⟨_, pgs_cons p1 p2 hs, fun ds vs ι M Γ σ G H Γ' Q s r h q => ?_⟩
  cases ds with
  | nil => cases h
  | cons d ds =>
    obtain ⟨Γ1, e1, e2⟩ := Option.bind_eq_some_iff.mp h
    cases r with
    | cons r rr => exact ⟨_, _, rfl, o1 d _ ι M Γ σ G H Γ1 _ s r e1 fun σ1 s1 c1 => o2 ds _ ι M Γ1 σ1 G H Γ' Q s1 rr e2 fun σ2 s2 c2 => q σ2 s2 ⟨c2.1.trans c1.1, fun j hj => (c2.2 j fun z => hj (List.mem_append_right _ z)).trans (c1.2 j fun z => hj (List.mem_append_left _ z))⟩⟩
theorem dg_tup {kt : Nat} {n : Nat} {ts : List Nat} (C : Ctx P w K mg base X N sc Wx k) (h : DGs X Z es gs ts) (hn : (assignEach es X.env).length = n := by rfl) (hst : (assignEach es X.env).findIdx? (·.1) = none := by rfl) : DG X Z (.Tuple es kt pos) (gTp n gs) ts := by
  obtain ⟨t, p, o⟩ := h
  refine ⟨_, pg_tup C.calm p hn hst, fun d v ι M Γ σ G H Γ' Q s r h q => ?_⟩
  cases d with
  | tup ds =>
    have h : (if ds.length = n then gs ds Γ else none) = some Γ' := h
    split at h
    · rename_i hl
      cases r with
      | tup hs rl => exact ⟨_, _, rfl, Same.seqT s.cr.sub hs, by rw [rl.length]; exact hl, o ds _ ι M Γ σ G H Γ' Q s rl h q⟩
    · cases h
  | _ => cases h
/-- target = value -/
def sAsg (f : EF) (g : GF) : SF := fun Γ M => bndS Γ (f Γ M) fun w M1 => match w with
  | .d d => (g d Γ).map fun Γ' => .nx Γ' M1
  | _ => none
theorem ds_asg {f : EF} {tg : Expr} {ts : List Nat} (he : DE X Wx Z e f) (hg : DG X Z tg g ts) (hs : swapsWithSole [tg] e pos.line X.env = pure false := by rfl) (hw : swappedStores [tg] e X.env = pure none := by rfl)
    (h1 : (assignEach [tg] X.env).map (·.2) = [assign tg X.env] := by rfl) : DS X Wx Z (.Assign [tg] e pos) (sAsg f g) := by
  obtain ⟨ta, pa, oa⟩ := he
  obtain ⟨t, p, o⟩ := hg
  refine ⟨_, ps_asg pa p hs hw h1, fun ι M Γ σ G H out D s e q => ?_⟩
  refine oa.thenS s e q fun w M1 e1 ι1 G1 H1 v s1 x1 r1 => ?_
  cases w with
  | r _ => cases e1
  | d d =>
    obtain ⟨Γ', hg, rfl⟩ := Option.map_eq_some_iff.mp e1
    cases r1 with
    | d r1 => exact o d v ι1 M1 Γ σ G1 H1 Γ' _ s1 r1 hg fun σ' s' _ => q ι1 G1 H1 σ' s' x1
/-- a, b = x, y -/
def sPar (i j : Nat) (f : AF) : SF := fun Γ M => bndS Γ (f Γ M) fun ws M1 => match ws with
  | [a, b] => some (.nx ((Γ.set i (some a)).set j (some b)) M1)
  | _ => none
theorem ds_par {i j : Nat} {x y : Str} {a b : Expr} {af : AF} {px py pt : Pos} {kt k2 pt2} (C : Ctx P w K mg base X N sc Wx k) (ha : DA X Wx Z [a, b] af) (hi : N[i]? = some x := by rfl) (hj : N[j]? = some y := by rfl) (hij : i ≠ j := by decide)
    (hx : sc.names.lookup x = some .local := by rfl) (hy : sc.names.lookup y = some .local := by rfl)
    (hw : swappedStores [.Tuple [.Name x px, .Name y py] kt pt] (.Tuple [a, b] k2 pt2) X.env = pure (some [x, y]))
    (hs : swapsWithSole [.Tuple [.Name x px, .Name y py] kt pt] (.Tuple [a, b] k2 pt2) pos.line X.env = pure false := by rfl) :
    DS X Wx Z (.Assign [.Tuple [.Name x px, .Name y py] kt pt] (.Tuple [a, b] k2 pt2) pos) (sPar i j af) := by
  obtain ⟨⟨ta, pa, oa⟩, len⟩ := ha
  refine ⟨_, ps_par (X := X) (i := i) (j := j) C.calm (C.hN ▸ C.nd) (C.hN ▸ hi) (C.hN ▸ hj) hij (C.g hx) (C.g hy) pa hw hs, fun ι M Γ σ G H out D s e q => ?_⟩
  rcases bndS_some e with ⟨ws, M1, e1, e2⟩ | ⟨x, M1, e1, e2⟩
  · refine oa ι M Γ σ G H _ _ s e1 fun ι1 G1 H1 vs s1 x1 r1 => ?_
    match ws, r1, e2 with
    | [w1, w2], .cons r (.cons r' .nil), e2 =>
      cases e2
      exact ⟨_, _, rfl, q ι1 G1 H1 _ ((s1.set i r).set j r') x1⟩
    | [], _, e2 => cases e2
    | [_], _, e2 => cases e2
    | _ :: _ :: _ :: _, _, e2 => cases e2
  · exact oa ι M Γ σ G H _ _ s e1 (SPost.x q x M1 e2)
/-- a, b, c = x, y, z -/
def sPar3 (i j l : Nat) (f : AF) : SF := fun Γ M => bndS Γ (f Γ M) fun ws M1 => match ws with
  | [a, b, c] => some (.nx (((Γ.set i (some a)).set j (some b)).set l (some c)) M1)
  | _ => none
theorem ds_par3 {i j l : Nat} {x y z : Str} {a b c : Expr} {af : AF} {px py pz pt : Pos} {kt k2 pt2} (C : Ctx P w K mg base X N sc Wx k) (ha : DA X Wx Z [a, b, c] af) (hi : N[i]? = some x := by rfl) (hj : N[j]? = some y := by rfl) (hl : N[l]? = some z := by rfl) (hij : i ≠ j := by decide) (hil : i ≠ l := by decide) (hjl : j ≠ l := by decide)
    (hx : sc.names.lookup x = some .local := by rfl) (hy : sc.names.lookup y = some .local := by rfl) (hz : sc.names.lookup z = some .local := by rfl)
    (hw : swappedStores [.Tuple [.Name x px, .Name y py, .Name z pz] kt pt] (.Tuple [a, b, c] k2 pt2) X.env = pure (some [x, y, z]))
    (hs : swapsWithSole [.Tuple [.Name x px, .Name y py, .Name z pz] kt pt] (.Tuple [a, b, c] k2 pt2) pos.line X.env = pure false := by rfl) :
    DS X Wx Z (.Assign [.Tuple [.Name x px, .Name y py, .Name z pz] kt pt] (.Tuple [a, b, c] k2 pt2) pos) (sPar3 i j l af) := by
  obtain ⟨⟨ta, pa, oa⟩, len⟩ := ha
  refine ⟨_, ps_par3 (X := X) (i := i) (j := j) (l := l) C.calm (C.hN ▸ C.nd) (C.hN ▸ hi) (C.hN ▸ hj) (C.hN ▸ hl) hij hil hjl (C.g hx) (C.g hy) (C.g hz) pa hw hs, fun ι M Γ σ G H out D s e q => ?_⟩
  rcases bndS_some e with ⟨ws, M1, e1, e2⟩ | ⟨x, M1, e1, e2⟩
  · refine oa ι M Γ σ G H _ _ s e1 fun ι1 G1 H1 vs s1 x1 r1 => ?_
    match ws, r1, e2 with
    | [w1, w2, w3], .cons r (.cons r' (.cons r'' .nil)), e2 =>
      cases e2
      exact ⟨_, _, _, rfl, q ι1 G1 H1 _ (((s1.set i r).set j r').set l r'') x1⟩
    | [], _, e2 => cases e2
    | [_], _, e2 => cases e2
    | [_, _], _, e2 => cases e2
    | _ :: _ :: _ :: _ :: _, _, e2 => cases e2
  · exact oa ι M Γ σ G H _ _ s e1 (SPost.x q x M1 e2)
end

/-! ### what is walked -/
structure JOk (K : PySem.W.Frag) (J : It) (G0 : Hp) (ds : List D) : Prop where
  go : ∀ i G H, Same G0 G → Same G H → i < ds.length → J.go i H
  yl : ∀ (i : Nat) G H x H' d, Same G0 G → Same G H → ds[i]? = some d → J.yld i H x H' → ∃ G', Grow G H G' H' ∧ Rep K G' x d
  st : ∀ i G H, Same G0 G → Same G H → ds.length ≤ i → J.stop i H
abbrev IF := Env → Store → Option (Out (List D))
section
variable (X : Cx) (Wx : WX) (Z : Addr → Prop)
def IPost (ι : List Addr) (Γ : Env) (σ : L2.St) (G H : Hp) (R : It → Hp → Prop) : Out (List D) → Prop
  | .ok ds M' => ∀ ι' G' H' J, SR X.K Z ι' M' Γ σ G' H' → Ext Z ι G H ι' G' H' → JOk X.K J G' ds → R J H'
  | .exc x M' => XPost X Wx Z ι Γ σ G H x M'
def IOk (wi : TI) (f : IF) : Prop := ∀ ι M Γ σ G H out R, SR X.K Z ι M Γ σ G H → f Γ M = some out → IPost X Wx Z ι Γ σ G H R out → wi σ H R
structure DI (tg iter : Expr) (f : IF) : Prop where
  ex : ∃ wi, PI X tg iter wi ∧ IOk X Wx Z wi f
end
def signs (x : Str) : List D := x.cps.toList.map fun c => .str ⟨#[c]⟩
/-- a list, a tuple, a text -/
def seqD : D → Option (List D)
  | .lst ds => some ds
  | .rol ds => some ds
  | .tup ds => some ds
  | .str x => some (signs x)
  | _ => none
def iSeq (f : EF) : IF := fun Γ M => bnd (f Γ M) fun w M1 => match w with
  | .d d => (seqD d).map fun ds => .ok ds M1
  | _ => none
section
variable {P : Program} {w : World} {mg : Str → Option Value} {base : Heap}
variable {X : Cx} {N : List Str} {sc : Scope} {Wx : WX} {k : Nat} {e tg : Expr} {es : List Expr} {pos : Pos} {g : GF} {gs : GFs} {f : EF} {af : AF}
theorem jok_list {a : Addr} {vs : List V} {ds : List D} (h : SqL K G a vs) (r : RepL K G vs ds) : JOk K (Itl K a) G ds := by
  refine ⟨fun i G1 H1 s s' hi => ?_, fun i G1 H1 x H2 d s s' hd y => ?_, fun i G1 H1 s s' hi => ?_⟩
  · obtain ⟨v, hv, _⟩ := r.get (List.getElem?_eq_getElem hi)
    exact ⟨vs, v, s'.seq (s.seq h), hv⟩
  · obtain ⟨rfl, y⟩ := y
    have hx := y vs (s'.seq (s.seq h))
    obtain ⟨v, hv, rv⟩ := r.get hd
    rw [hv] at hx
    cases hx
    exact ⟨G1, Grow.refl s', rv.mono s⟩
  · exact ⟨vs, s'.seq (s.seq h), by rw [r.length]; exact hi⟩
theorem jok_tup {a : Addr} {vs : List V} {ds : List D} (h : SqT K G a vs) (r : RepL K G vs ds) : JOk K (Itt K a) G ds := by
  refine ⟨fun i G1 H1 s s' hi => ?_, fun i G1 H1 x H2 d s s' hd y => ?_, fun i G1 H1 s s' hi => ?_⟩
  · obtain ⟨v, hv, _⟩ := r.get (List.getElem?_eq_getElem hi)
    exact ⟨vs, v, Same.seqT s' (Same.seqT s h), hv⟩
  · obtain ⟨rfl, y⟩ := y
    have hx := y vs (Same.seqT s' (Same.seqT s h))
    obtain ⟨v, hv, rv⟩ := r.get hd
    rw [hv] at hx
    cases hx
    exact ⟨G1, Grow.refl s', rv.mono s⟩
  · exact ⟨vs, Same.seqT s' (Same.seqT s h), by rw [r.length]; exact hi⟩
theorem jok_str {x : Str} : JOk K (Its x) G (signs x) := by
  have hl : (signs x).length = x.cps.size := by simp [signs]
  refine ⟨fun i G1 H1 s s' hi => ?_, fun i G1 H1 v H2 d s s' hd y => ?_, fun i G1 H1 s s' hi => ?_⟩
  · show i < x.cps.size
    rw [← hl]; exact hi
  · obtain ⟨rfl, c, hc, rfl⟩ := y
    unfold signs at hd
    rw [List.getElem?_map, Array.getElem?_toList, hc] at hd
    cases hd
    exact ⟨G1, Grow.refl s', .str _⟩
  · show x.cps.size ≤ i
    rw [← hl]; exact hi
/-- a list, a tuple or a text is walked -/
def iSeqT (K : PySem.W.Frag) (tl : TE) : TI := fun σ H R => tl σ H fun x H1 => (∃ a xs, x = .ref a ∧ SqL K H1 a xs ∧ R (Itl K a) H1) ∨ (∃ a xs, x = .ref a ∧ SqT K H1 a xs ∧ R (Itt K a) H1) ∨ ∃ z, x = .str z ∧ R (Its z) H1
theorem pi_seq {l : Expr} {tl : TE} (hl : PE X l tl) : PI X tg l (iSeqT X.K tl) := by
  refine ⟨fun pins s σ H R I h => ?_⟩
  refine thn (hl.run pins s σ H _ I h) fun v s1 ⟨x, H1, I1, r1, q1⟩ => ?_
  rcases q1 with ⟨a, xs, rfl, hq, q⟩ | ⟨a, xs, rfl, hq, q⟩ | ⟨z, rfl, q⟩
  · cases r1
    obtain ⟨its, rv, p, hz⟩ := I1.list hq
    refine wpAny_pyIter_list p.isList ?_
    refine ⟨s1.heap.objs.size, [s1.heap.objs.size], _, _, H1, rfl, I1.kept (t' := s1.toks) fun b o e => Heap.get?_push_of_some _ e, turn_list a _, ⟨_, Heap.get?_push_size _ rfl, rfl, rfl⟩, fun b hb => ?_, q⟩
    rw [List.mem_singleton.mp hb]
    exact I1.fpOk (Nat.le_refl _) (I1.hok.fresh (Nat.le_refl _))
  · cases r1
    obtain ⟨its, rv, p, hz⟩ := I1.tuple hq
    refine wpAny_pyIter_tuple (show s1.heap.IsTuple a its.toArray from p) ?_
    refine ⟨s1.heap.objs.size, [s1.heap.objs.size], _, _, H1, rfl, I1.kept (t' := s1.toks) fun b o e => Heap.get?_push_of_some _ e, turn_tuple a _, ⟨_, Heap.get?_push_size _ rfl, rfl, rfl⟩, fun b hb => ?_, q⟩
    rw [List.mem_singleton.mp hb]
    exact I1.fpOk (Nat.le_refl _) (I1.hok.fresh (Nat.le_refl _))
  · obtain ⟨t, rfl⟩ := r1
    cases ha : z.cps.all (· < 128)
    · exact wpAny_pyIter_wide ha (pi_one (tk := s1.toks) I1 _ (turn_str _ z t "str_iterator" (.inr rfl)) ⟨_, Heap.get?_push_size _ rfl, rfl, rfl⟩ q)
    · exact wpAny_pyIter_ascii ha (pi_one (tk := s1.toks) I1 _ (turn_str _ z t "str_ascii_iterator" (.inl rfl)) ⟨_, Heap.get?_push_size _ rfl, rfl, rfl⟩ q)
theorem di_seq (he : DE X Wx Z e f) : DI X Wx Z tg e (iSeq f) := by
  obtain ⟨ta, pa, oa⟩ := he
  refine ⟨_, pi_seq pa, fun ι M Γ σ G H out R s e q => ?_⟩
  refine oa.then s e (fun x M' ex => by subst ex; exact q) fun w M1 e1 ι1 G1 H1 v s1 x1 r1 => ?_
  cases w with
  | r _ => cases e1
  | d d =>
    obtain ⟨ds, h, rfl⟩ := Option.map_eq_some_iff.mp e1
    cases r1 with
    | d r1 =>
      cases r1 with
      | lst h1 r => cases h; exact .inl ⟨_, _, rfl, SqL.of (s1.cr.sub _ _ h1), q ι1 G1 H1 _ s1 x1 (jok_list (SqL.of h1) r)⟩
      | rol h1 r => cases h; exact .inl ⟨_, _, rfl, s1.cr.sub.seq h1, q ι1 G1 H1 _ s1 x1 (jok_list h1 r)⟩
      | tup h1 r => cases h; exact .inr (.inl ⟨_, _, rfl, Same.seqT s1.cr.sub h1, q ι1 G1 H1 _ s1 x1 (jok_tup h1 r)⟩)
      | str x => cases h; exact .inr (.inr ⟨_, rfl, q ι1 G1 H1 _ s1 x1 jok_str⟩)
      | _ => cases h
/-! ### ranges -/
def intsD (lo : Int) (n : Nat) : List D := (List.range n).map fun i => .int (lo + (i : Nat))
theorem jok_range {lo : Int} {n : Nat} : JOk K (Itr lo n) G (intsD lo n) := by
  have hl : (intsD lo n).length = n := by simp [intsD]
  refine ⟨fun i G1 H1 s s' hi => ?_, fun i G1 H1 v H2 d s s' hd y => ?_, fun i G1 H1 s s' hi => ?_⟩
  · show i < n
    rw [← hl]; exact hi
  · obtain ⟨rfl, rfl⟩ := y
    unfold intsD at hd
    have hi := (List.getElem?_eq_some_iff.mp hd).1
    rw [List.length_map, List.length_range] at hi
    rw [List.getElem?_map, List.getElem?_range hi] at hd
    cases hd
    exact ⟨G1, Grow.refl s', .int _⟩
  · show n ≤ i
    rw [← hl]; exact hi
def small62 (i : Int) : Bool := decide (-(2 ^ 62) ≤ i) && decide (i < 2 ^ 62)
def rangeD : List D → Option (List D)
  | [.int j] => if small62 j = true then some (intsD 0 j.toNat) else none
  | [.int i, .int j] => if small62 i = true ∧ small62 j = true then some (intsD i (j - i).toNat) else none
  | _ => none
def iRange (f : AF) : IF := fun Γ M => bnd (f Γ M) fun ws M1 => ((allD ws).bind rangeD).map fun ds => .ok ds M1
theorem small62_ok {i : Int} (h : small62 i = true) : -(2 ^ 62) ≤ i ∧ i < 2 ^ 62 := by
  unfold small62 at h
  rw [Bool.and_eq_true] at h
  exact ⟨of_decide_eq_true h.1, of_decide_eq_true h.2⟩
theorem di_range1 (C : Ctx P w K mg base X N sc Wx k) {a : Expr} {p : Pos} (hm : mg "range" = none) (ha : DA X Wx Z [a] af) (hg : sc.names.lookup ("range" : Str) = some .globalImplicit := by rfl) (hs : starEach [a] X.env = [(false, eval a X.env)] := by rfl) :
    DI X Wx Z tg (.Call (.Name "range" p) [a] [] pos) (iRange af) := by
  obtain ⟨⟨ta, pa, oa⟩, len⟩ := ha
  refine ⟨_, pi_range1 (C.g hg) (C.m hm) pa hs, fun ι M Γ σ G H out R s e q => ?_⟩
  refine oa.then s e (fun x M' ex => by subst ex; exact q) fun ws M1 e1 e0 ι1 G1 H1 vs s1 x1 r1 => ?_
  obtain ⟨ds, h, rfl⟩ := Option.map_eq_some_iff.mp e1
  obtain ⟨as, h1, h2⟩ := Option.bind_eq_some_iff.mp h
  have hl := len _ _ _ _ e0
  have rl := allD_rep r1 h1
  have ha : as.length = 1 := by rw [allD_map h1, List.length_map] at hl; exact hl
  match as, ha, rl, h2 with
  | [.int j], _, .cons r .nil, h2 =>
    have h2 : (if small62 j = true then some (intsD 0 j.toNat) else none) = some ds := h2
    split at h2
    · rename_i hb
      cases h2
      cases r
      exact ⟨j, rfl, (small62_ok hb).1, (small62_ok hb).2, q ι1 G1 H1 _ s1 x1 jok_range⟩
    · cases h2
  | [.non], _, _, h2 => cases h2
  | [.bl _], _, _, h2 => cases h2
  | [.str _], _, _, h2 => cases h2
  | [.tup _], _, _, h2 => cases h2
  | [.lst _], _, _, h2 => cases h2
  | [.rol _], _, _, h2 => cases h2
  | [.dic _], _, _, h2 => cases h2
  | [.ins _ _], _, _, h2 => cases h2
  | [.cls _], _, _, h2 => cases h2
  | [.ty _], _, _, h2 => cases h2
  | [.set _], _, _, h2 => cases h2
  | [.exv _ _], _, _, h2 => cases h2
theorem di_range2 (C : Ctx P w K mg base X N sc Wx k) {a b : Expr} {p : Pos} (hm : mg "range" = none) (ha : DA X Wx Z [a, b] af) (hg : sc.names.lookup ("range" : Str) = some .globalImplicit := by rfl) (hs : starEach [a, b] X.env = [(false, eval a X.env), (false, eval b X.env)] := by rfl) (hs2 : starEach [b] X.env = [(false, eval b X.env)] := by rfl) :
    DI X Wx Z tg (.Call (.Name "range" p) [a, b] [] pos) (iRange af) := by
  obtain ⟨⟨ta, pa, oa⟩, len⟩ := ha
  refine ⟨_, pi_range2 (C.g hg) (C.m hm) pa hs hs2, fun ι M Γ σ G H out R s e q => ?_⟩
  refine oa.then s e (fun x M' ex => by subst ex; exact q) fun ws M1 e1 e0 ι1 G1 H1 vs s1 x1 r1 => ?_
  obtain ⟨ds, h, rfl⟩ := Option.map_eq_some_iff.mp e1
  obtain ⟨as, h1, h2⟩ := Option.bind_eq_some_iff.mp h
  have hl := len _ _ _ _ e0
  have rl := allD_rep r1 h1
  have ha : as.length = 2 := by rw [allD_map h1, List.length_map] at hl; exact hl
  unfold rangeD at h2
  split at h2
  · cases ha
  · rename_i i j
    split at h2
    · rename_i hb
      cases h2
      match rl with
      | .cons r (.cons r' .nil) =>
        cases r
        cases r'
        exact ⟨i, j, rfl, ⟨(small62_ok hb.1).1, (small62_ok hb.1).2, (small62_ok hb.2).1, (small62_ok hb.2).2⟩, q ι1 G1 H1 _ s1 x1 jok_range⟩
    · cases h2
  · cases h2
end
/-! ### for, while -/
def forF (g : GF) (u : SF) : List D → SF
  | [] => sNx
  | d :: r => fun Γ M => match g d Γ with
    | none => none
    | some Γ1 => match u Γ1 M with
      | some (.nx Γ2 M2) => forF g u r Γ2 M2
      | some (.ct Γ2 M2) => forF g u r Γ2 M2
      | some (.bk Γ2 M2) => some (.nx Γ2 M2)
      | o => o
def sFor (i : IF) (g : GF) (u : SF) : SF := fun Γ M => bndS Γ (i Γ M) fun ds M1 => forF g u ds Γ M1
def whF (t : TF) (u : SF) : Nat → SF
  | 0 => fun _ _ => none
  | n + 1 => fun Γ M => bndS Γ (t Γ M) fun k M1 => if k = true then (match u Γ M1 with
      | some (.nx Γ2 M2) => whF t u n Γ2 M2
      | some (.ct Γ2 M2) => whF t u n Γ2 M2
      | some (.bk Γ2 M2) => some (.nx Γ2 M2)
      | o => o) else some (.nx Γ M1)
section
variable {P : Program} {w : World} {mg : Str → Option Value} {base : Heap}
variable {X : Cx} {N : List Str} {sc : Scope} {Wx : WX} {k : Nat} {e tg iter c : Expr} {body : List Stmt} {pos : Pos} {g : GF} {f : IF} {u : SF} {t : TF}
theorem ds_for (C : Ctx P w K mg base X N sc Wx k) (px : Px X) {ts : List Nat} (hi : DI X Wx Z tg iter f) (hg : DG X Z tg g ts) (hb : DSs X Wx Z body u) (hs : ∀ x, foldedSetIterable iter X.env x = pure x := by intro _; rfl) :
    DS X Wx Z (.For tg iter body [] pos) (sFor f g u) := by
  obtain ⟨wi, pi, oi⟩ := hi
  obtain ⟨gt, pg, og⟩ := hg
  obtain ⟨tb, pb, ob⟩ := hb
  refine ⟨_, ps_for px.po C.calm pi pg pb hs, fun ι M Γ σ G H out D s e q => ?_⟩
  have go : ∀ ds M1, forF g u ds Γ M1 = some out → ∀ ι1 G1 H1 J, SR X.K Z ι1 M1 Γ σ G1 H1 → Ext Z ι G H ι1 G1 H1 → JOk X.K J G1 ds →
      ∃ W : Nat → Nat → L2.St → Hp → Prop, (∃ m, W 0 m σ H1) ∧ ∀ i m σ H, W i m σ H → (J.stop i H ∧ D.nx σ H) ∨ (J.go i H ∧ ∃ N : L2.St → Hp → Prop, (∀ σ' H', N σ' H' → ∃ m', m' < m ∧ W (i + 1) m' σ' H') ∧
        ∀ x H', J.yld i H x H' → gt x σ H' fun σ2 H2 => tb { D with nx := N, ct := N, bk := D.nx } σ2 H2) := by
    intro ds M1 e1 ι1 G1 H1 J s1 x1 jo
    refine ⟨fun i m σ' H' => m = ds.length - i ∧ i ≤ ds.length ∧ ∃ ι' M' Γ' G', SR X.K Z ι' M' Γ' σ' G' H' ∧ Ext Z ι1 G1 H1 ι' G' H' ∧ forF g u (ds.drop i) Γ' M' = some out,
      ⟨ds.length, by simp, Nat.zero_le _, ι1, M1, Γ, G1, s1, Ext.refl, e1⟩, ?_⟩
    rintro i m σ2 H2 ⟨rfl, hi, ι2, M2, Γ2, G2, s2, x2, e2⟩
    by_cases hlt : i < ds.length
    · refine .inr ⟨jo.go i G2 H2 x2.sm s2.cr.sub hlt, fun σ' H' => ∃ ι' M' Γ' G', SR X.K Z ι' M' Γ' σ' G' H' ∧ Ext Z ι1 G1 H1 ι' G' H' ∧ forF g u (ds.drop (i + 1)) Γ' M' = some out,
        fun σ' H' h => ⟨ds.length - (i + 1), by omega, rfl, hlt, h⟩, fun x H3 y => ?_⟩
      obtain ⟨G3, gw, r⟩ := jo.yl i G2 H2 x H3 ds[i] x2.sm s2.cr.sub (List.getElem?_eq_getElem hlt) y
      have s3 := s2.grow gw
      have x3 := x2.trans (s2.cr.growE gw)
      rw [List.drop_eq_getElem_cons hlt] at e2
      unfold forF at e2
      cases hg1 : g ds[i] Γ2 with
      | none => rw [hg1] at e2; cases e2
      | some Γ3 =>
        rw [hg1] at e2
        refine og ds[i] x ι2 M2 Γ2 σ2 G3 H3 Γ3 _ s3 r hg1 fun σ3 s4 _ => ?_
        dsimp only at e2
        cases z : u Γ3 M2 with
        | none => rw [z] at e2; cases e2
        | some o =>
          rw [z] at e2
          refine ob ι2 M2 Γ3 σ3 G3 H3 o _ s4 z ?_
          have xt := x1.trans x3
          cases o with
          | nx Γ4 M4 => exact fun ι5 G5 H5 σ5 s5 x5 => ⟨ι5, M4, Γ4, G5, s5, x3.trans x5, e2⟩
          | ct Γ4 M4 => exact fun ι5 G5 H5 σ5 s5 x5 => ⟨ι5, M4, Γ4, G5, s5, x3.trans x5, e2⟩
          | bk Γ4 M4 =>
            cases e2
            exact fun ι5 G5 H5 σ5 s5 x5 => q ι5 G5 H5 σ5 s5 (xt.trans x5)
          | rt w M4 =>
            cases e2
            exact fun ι5 G5 H5 v s5 x5 r5 => q ι5 G5 H5 v s5 (xt.trans x5) r5
          | ex x Γ4 M4 =>
            cases e2
            exact fun ι5 G5 H5 σ5 c d s5 x5 r5 => q ι5 G5 H5 σ5 c d s5 (xt.trans x5) r5
    · have ei : i = ds.length := by omega
      subst ei
      refine .inl ⟨jo.st _ G2 H2 x2.sm s2.cr.sub (Nat.le_refl _), ?_⟩
      rw [List.drop_length] at e2
      cases e2
      exact q ι2 G2 H2 σ2 s2 (x1.trans x2)
  rcases bndS_some e with ⟨ds, M1, e1, e2⟩ | ⟨x, M1, e1, e2⟩
  · exact oi ι M Γ σ G H _ _ s e1 (go ds M1 e2)
  · exact oi ι M Γ σ G H _ _ s e1 (SPost.x q x M1 e2)
theorem ds_while (C : Ctx P w K mg base X N sc Wx k) (px : Px X) (n : Nat) (hc : DT X Wx Z c t) (hb : DSs X Wx Z body u) : DS X Wx Z (.While c body [] pos) (whF t u n) := by
  obtain ⟨tc, pc, oc⟩ := hc
  obtain ⟨tb, pb, ob⟩ := hb
  refine ⟨_, ps_while px.po pc pb, fun ι M Γ σ G H out D s e q => ?_⟩
  refine ⟨fun m σ' H' => ∃ ι' M' Γ' G', SR X.K Z ι' M' Γ' σ' G' H' ∧ Ext Z ι G H ι' G' H' ∧ whF t u m Γ' M' = some out, ⟨n, ι, M, Γ, G, s, Ext.refl, e⟩, ?_⟩
  rintro m σ1 H1 ⟨ι1, M1, Γ1, G1, s1, x1, e1⟩
  cases m with
  | zero => cases e1
  | succ m =>
    refine oc.thenS s1 e1 (q.ext x1) fun kk M2 e2 ι2 G2 H2 s2 x2 => ?_
    cases kk with
    | false =>
      cases e2
      exact iteF (q ι2 G2 H2 σ1 s2 (x1.trans x2))
    | true =>
      rw [if_pos rfl] at e2
      refine iteT ⟨fun σ' H' => ∃ ι' M' Γ' G', SR X.K Z ι' M' Γ' σ' G' H' ∧ Ext Z ι G H ι' G' H' ∧ whF t u m Γ' M' = some out, fun σ' H' h => ⟨m, Nat.lt_succ_self m, h⟩, ?_⟩
      have xt := x1.trans x2
      cases z : u Γ1 M2 with
      | none => rw [z] at e2; cases e2
      | some o =>
        rw [z] at e2
        refine ob ι2 M2 Γ1 σ1 G2 H2 o _ s2 z ?_
        cases o with
        | nx Γ4 M4 => exact fun ι5 G5 H5 σ5 s5 x5 => ⟨ι5, M4, Γ4, G5, s5, xt.trans x5, e2⟩
        | ct Γ4 M4 => exact fun ι5 G5 H5 σ5 s5 x5 => ⟨ι5, M4, Γ4, G5, s5, xt.trans x5, e2⟩
        | bk Γ4 M4 =>
          cases e2
          exact fun ι5 G5 H5 σ5 s5 x5 => q ι5 G5 H5 σ5 s5 (xt.trans x5)
        | rt w M4 =>
          cases e2
          exact fun ι5 G5 H5 v s5 x5 r5 => q ι5 G5 H5 v s5 (xt.trans x5) r5
        | ex x Γ4 M4 =>
          cases e2
          exact fun ι5 G5 H5 σ5 c d s5 x5 r5 => q ι5 G5 H5 σ5 c d s5 (xt.trans x5) r5
end
end DL

set_option Elab.async false
set_option linter.all false
set_option maxRecDepth 100000
set_option autoImplicit false
set_option maxHeartbeats 1000000
namespace DL
open PySem PySem.Spec PyProof.Rows L2
variable [PWd]
variable {K : PySem.W.Frag} {G G' G'' H H' H'' : Hp} {Z : Addr → Prop} {ι ι' ι'' : List Addr} {M M' : Store} {Γ Γ' : Env} {σ σ' : L2.St}
section
variable {X : Cx} {N : List Str} {sc : Scope} {Wx : WX} {k : Nat} {f : Value → Value → Sem Value} {r r' : R2} {h h' : D → D → Option D}
/-- one operation by two rules -/
def orD (h h' : D → D → Option D) : D → D → Option D := fun a b => match h a b with
  | some d => some d
  | none => h' a b
theorem OpS.or (s : OpS X r h) (s' : OpS X r' h') : OpS X (fun x y H Q => r x y H Q ∨ r' x y H Q) (orD h h') := fun G H x y a b d Q sm ra rb e q => by
  unfold orD at e
  cases z : h a b with
  | some d' => rw [z] at e; cases e; exact .inl (s G H x y a b d Q sm ra rb z q)
  | none => rw [z] at e; exact .inr (s' G H x y a b d Q sm ra rb e q)

/-! ### numbers -/
def intOp (c : Int → Int → Bool) (g : Int → Int → Int) : D → D → Option D
  | .int i, .int j => if c i j = true then some (.int (g i j)) else none
  | _, _ => none
theorem opS_int {c : Int → Int → Bool} {C : Int → Int → Prop} {g : Int → Int → Int} (hc : ∀ i j, c i j = true → C i j) : OpS X (rI C fun i j => .int (g i j)) (intOp c g) := fun G H x y a b d Q sm ra rb e q => by
  unfold intOp at e
  split at e
  · rename_i i j
    split at e
    · rename_i hb
      cases e
      rw [ra.int, rb.int]
      exact ⟨i, j, rfl, rfl, hc i j hb, q _ G H (Grow.refl sm) (.int _)⟩
    · cases e
  · cases e
def intOp0 (g : Int → Int → Int) : D → D → Option D
  | .int i, .int j => some (.int (g i j))
  | _, _ => none
theorem opS_int0 {g : Int → Int → Int} : OpS X (rI0 fun i j => .int (g i j)) (intOp0 g) := fun G H x y a b d Q sm ra rb e q => by
  unfold intOp0 at e
  split at e
  · rename_i i j
    cases e
    rw [ra.int, rb.int]
    exact ⟨i, j, rfl, rfl, q _ G H (Grow.refl sm) (.int _)⟩
  · cases e
def intCmp (g : Int → Int → Bool) : D → D → Option D
  | .int i, .int j => some (.bl (g i j))
  | _, _ => none
theorem opS_cmp {g : Int → Int → Bool} : OpS X (rI0 fun i j => .bl (g i j)) (intCmp g) := fun G H x y a b d Q sm ra rb e q => by
  unfold intCmp at e
  split at e
  · rename_i i j
    cases e
    rw [ra.int, rb.int]
    exact ⟨i, j, rfl, rfl, q _ G H (Grow.refl sm) (.bl _)⟩
  · cases e
abbrev ltD := intCmp fun i j => decide (i < j)
abbrev leD := intCmp fun i j => decide (i ≤ j)
abbrev gtD := intCmp fun i j => decide (j < i)
abbrev geD := intCmp fun i j => decide (j ≤ i)
abbrev subD := intOp0 fun i j => i - j
def mulC (i j : Int) : Bool := decide ((Builtin.Int.intBits i : Int) + (Builtin.Int.intBits j : Int) ≤ 134217728)
def divC (_ j : Int) : Bool := decide (0 < j) && decide (j.natAbs.log2 < 9000)
def modC (_ j : Int) : Bool := decide (0 < j)
def powC (i n : Int) : Bool := decide (0 ≤ n) && decide ((Builtin.Int.intBits i : Int) * n ≤ 2 ^ 27)
abbrev divD := intOp divC fun i j => i / j
abbrev modD := intOp modC fun i j => i % j
abbrev powD := intOp powC fun i j => i ^ j.toNat
theorem op_powX : OpR X (binaryOp .Pow) (rI (fun i j => powC i j = true) fun i j => .int (i ^ j.toNat)) := opI fun i j _ _ _ _ _ hc q => by
  unfold powC at hc
  rw [Bool.and_eq_true] at hc
  exact pow_int (of_decide_eq_true hc.1) (of_decide_eq_true hc.2) q
theorem s_sub : OpS X (rI0 fun i j => .int (i - j)) subD := opS_int0
theorem s_div : OpS X (rI CDivW fun i j => .int (i / j)) divD := opS_int fun i j h => by
  unfold divC at h
  rw [Bool.and_eq_true] at h
  exact ⟨of_decide_eq_true h.1, of_decide_eq_true h.2⟩
theorem s_mod : OpS X (rI (fun _ j => 0 < j) fun i j => .int (i % j)) modD := opS_int fun i j h => of_decide_eq_true h
theorem s_pow : OpS X (rI (fun i j => powC i j = true) fun i j => .int (i ^ j.toNat)) powD := opS_int fun i j h => h
def negD : D → Option D
  | .int i => some (.int (-i))
  | _ => none
theorem s_neg : UnS X (rU fun i => .int (-i)) negD := fun G H x a d Q sm ra e q => by
  cases a with
  | int i => cases e; rw [ra.int]; exact ⟨i, rfl, q _ G H (Grow.refl sm) (.int _)⟩
  | _ => cases e

/-! ### + -/
def addStr : D → D → Option D
  | .str a, .str b => if a.length + b.length ≤ sizeLine then some (.str (a ++ b)) else none
  | _, _ => none
theorem s_addStr : OpS X (fun x y H Q => ∃ i j, x = .str i ∧ y = .str j ∧ i.length + j.length ≤ sizeLine ∧ Q (.str (i ++ j)) H) addStr := fun G H x y a b d Q sm ra rb e q => by
  unfold addStr at e
  split at e
  · rename_i i j
    split at e
    · rename_i hz
      cases e
      rw [ra.str, rb.str]
      exact ⟨i, j, rfl, rfl, hz, q _ G H (Grow.refl sm) (.str _)⟩
    · cases e
  · cases e
def addLst : D → D → Option D
  | .lst a, .lst b => if a.length + b.length ≤ sizeLine then some (.lst (a ++ b)) else none
  | _, _ => none
theorem s_addLst : OpS X rCat addLst := fun G H x y a b d Q sm ra rb e q => by
  unfold addLst at e
  split at e
  · rename_i as bs
    split at e
    · rename_i hz
      cases e
      obtain ⟨l, vs, rfl, h1, r1⟩ := ra.asL sm
      obtain ⟨m, us, rfl, h2, r2⟩ := rb.asL sm
      refine ⟨l, m, vs, us, rfl, rfl, h1, h2, by rw [r1.length, r2.length]; exact hz, fun p hp => ?_⟩
      have gw := Grow.one (o := .lst (vs ++ us)) sm hp
      exact q _ _ _ gw (.lst upd_same ((r1.append r2).mono gw.g))
    · cases e
  · cases e
def addTup : D → D → Option D
  | .tup a, .tup b => if a.length + b.length ≤ sizeLine then some (.tup (a ++ b)) else none
  | _, _ => none
theorem RepL.nil_iff {vs : List V} {ds : List D} (r : RepL K G vs ds) : vs = [] ↔ ds = [] := by
  cases r <;> simp
theorem asT_full (sm : Same G H) {v : V} {ds : List D} (r : RB K G H v (.tup ds)) : ∃ a vs, v = .ref a ∧ SqT K G a vs ∧ SqT K H a vs ∧ RepL K G vs ds := by
  cases r with
  | rep r => cases r with
    | tup h r => exact ⟨_, _, rfl, h, Same.seqT sm h, r⟩
theorem s_addTup : OpS X (rCatA X.K) addTup := fun G H x y a b d Q sm ra rb e q => by
  unfold addTup at e
  split at e
  · rename_i as bs
    split at e
    · rename_i hz
      cases e
      obtain ⟨l, vs, rfl, g1, h1, r1⟩ := asT_full sm ra
      obtain ⟨m, us, rfl, g2, h2, r2⟩ := asT_full sm rb
      refine ⟨l, m, vs, us, rfl, rfl, h1, h2, by rw [r1.length, r2.length]; exact hz, fun z => ?_, fun z z2 => ?_, fun z z2 p hp => ?_⟩
      · have e1 := r1.nil_iff.mp z
        exact q _ G H (Grow.refl sm) (by rw [e1, List.nil_append]; exact .tup g2 r2)
      · have e1 := r2.nil_iff.mp z2
        exact q _ G H (Grow.refl sm) (by rw [e1, List.append_nil]; exact .tup g1 r1)
      · have gw := Grow.one (o := .tup (vs ++ us)) sm hp
        exact q _ _ _ gw (.tup (SqT.of upd_same) ((r1.append r2).mono gw.g))
    · cases e
  · cases e
def addD : D → D → Option D := orD (orD (intOp0 fun i j => i + j) addStr) (orD addLst addTup)
theorem op_addG : OpR X (binaryOp .Add) (fun x y H Q => (rI0 (fun i j => .int (i + j)) x y H Q ∨ ∃ i j, x = .str i ∧ y = .str j ∧ i.length + j.length ≤ sizeLine ∧ Q (.str (i ++ j)) H) ∨ (rCat x y H Q ∨ rCatA X.K x y H Q)) :=
  OpR.or (OpR.or op_add op_add_str) (OpR.or op_cat op_catA)
theorem s_add : OpS X (fun x y H Q => (rI0 (fun i j => .int (i + j)) x y H Q ∨ ∃ i j, x = .str i ∧ y = .str j ∧ i.length + j.length ≤ sizeLine ∧ Q (.str (i ++ j)) H) ∨ (rCat x y H Q ∨ rCatA X.K x y H Q)) addD :=
  OpS.or (OpS.or opS_int0 s_addStr) (OpS.or s_addLst s_addTup)
/-! ### * -/
def repsD (n : Int) (xs : List D) : List D := (List.replicate n.toNat xs).flatten
def small63 (i : Int) : Bool := decide (-(2 ^ 63) ≤ i) && decide (i < 2 ^ 63)
theorem RepL.rep {vs : List V} {ds : List D} (r : RepL K G vs ds) : ∀ n : Nat, RepL K G (List.replicate n vs).flatten (List.replicate n ds).flatten
  | 0 => .nil
  | n + 1 => by
    rw [List.replicate_succ, List.replicate_succ, List.flatten_cons, List.flatten_cons]
    exact r.append (RepL.rep r n)
def mulLst : D → D → Option D
  | .lst a, .int n => if small63 n = true ∧ a.length * n.toNat ≤ sizeLine then some (.lst (repsD n a)) else none
  | _, _ => none
theorem s_mulLst : OpS X rRep mulLst := fun G H x y a b d Q sm ra rb e q => by
  unfold mulLst at e
  split at e
  · rename_i as n
    split at e
    · rename_i hz
      cases e
      obtain ⟨l, vs, rfl, h1, r1⟩ := ra.asL sm
      rw [rb.int]
      have hz1 := hz.1
      unfold small63 at hz1
      rw [Bool.and_eq_true] at hz1
      refine ⟨l, n, vs, rfl, rfl, h1, of_decide_eq_true hz1.1, of_decide_eq_true hz1.2, by rw [r1.length]; exact hz.2, fun p hp => ?_⟩
      have gw := Grow.one (o := .lst (List.replicate n.toNat vs).flatten) sm hp
      exact q _ _ _ gw (.lst upd_same ((r1.rep _).mono gw.g))
    · cases e
  · cases e
/-! ### == -/
def eqOk (a b : D) : Bool := pl a && pl b && decide (min (dep a) (dep b) ≤ 200)
def eqOp (a b : D) : Option D := if eqOk a b = true then some (.bl (eqD a b)) else none
def neOp (a b : D) : Option D := if eqOk a b = true then some (.bl (!eqD a b)) else none
def rEqG (K : PySem.W.Frag) : R2 := fun x y H Q => ∃ a b, Rep K H x a ∧ Rep K H y b ∧ eqOk a b = true ∧ Q (.bl (eqD a b)) H
def rNeG (K : PySem.W.Frag) : R2 := fun x y H Q => ∃ a b, Rep K H x a ∧ Rep K H y b ∧ eqOk a b = true ∧ Q (.bl (!eqD a b)) H
theorem eqOk_of {a b : D} (h : eqOk a b = true) : pl a = true ∧ pl b = true ∧ min (dep a) (dep b) ≤ 200 := by
  unfold eqOk at h
  rw [Bool.and_eq_true, Bool.and_eq_true] at h
  exact ⟨h.1.1, h.1.2, of_decide_eq_true h.2⟩
theorem op_eqG (hr : Room k X.A) : OpR X (compareOp .Eq) (rEqG X.K) := by
  intro pins s σ H x y v u Q I rx ry h
  obtain ⟨a, b, ra, rb, ok, q⟩ := h
  obtain ⟨pa, pb, hd⟩ := eqOk_of ok
  have hu : X.A.units + min (dep a) (dep b) < cLine := by have := hr.un; omega
  exact eq_rep I hu pa pb ra rb rx ry X.prog X.w _ _ ⟨.bl _, H, I, rfl, q⟩
theorem op_neG (hr : Room k X.A) : OpR X (compareOp .NotEq) (rNeG X.K) := by
  intro pins s σ H x y v u Q I rx ry h
  obtain ⟨a, b, ra, rb, ok, q⟩ := h
  obtain ⟨pa, pb, hd⟩ := eqOk_of ok
  have hu : X.A.units + min (dep a) (dep b) < cLine := by have := hr.un; omega
  exact ne_rep I hu pa pb ra rb rx ry X.prog X.w _ _ ⟨.bl _, H, I, rfl, q⟩
theorem pl_nodic {a : D} (h : pl a = true) : ∀ ds, a ≠ .dic ds := fun ds e => by subst e; simp [pl] at h
theorem s_eq : OpS X (rEqG X.K) eqOp := fun G H x y a b d Q sm ra rb e q => by
  unfold eqOp at e
  split at e
  · rename_i ok
    cases e
    obtain ⟨pa, pb, hd⟩ := eqOk_of ok
    exact ⟨a, b, ra.full sm (pl_nodic pa), rb.full sm (pl_nodic pb), ok, q _ G H (Grow.refl sm) (.bl _)⟩
  · cases e
theorem s_ne : OpS X (rNeG X.K) neOp := fun G H x y a b d Q sm ra rb e q => by
  unfold neOp at e
  split at e
  · rename_i ok
    cases e
    obtain ⟨pa, pb, hd⟩ := eqOk_of ok
    exact ⟨a, b, ra.full sm (pl_nodic pa), rb.full sm (pl_nodic pb), ok, q _ G H (Grow.refl sm) (.bl _)⟩
  · cases e
/-! ### is None -/
def isNon : D → Bool
  | .non => true
  | _ => false
def isND (a b : D) : Option D := if isNon b = true then some (.bl (isNon a)) else none
def notND (a b : D) : Option D := if isNon b = true then some (.bl (!isNon a)) else none
theorem non_iff {v : V} {a : D} (r : RB K G H v a) : decide (v = .non) = isNon a := by
  cases r with
  | rep r => cases r <;> rfl
  | _ => rfl
theorem eq_non {a : D} (h : isNon a = true) : a = .non := by
  cases a <;> first | rfl | exact (nomatch h)
theorem s_isN : OpS X (fun x y H Q => y = .non ∧ Q (.bl (decide (x = .non))) H) isND := fun G H x y a b d Q sm ra rb e q => by
  unfold isND at e
  split at e
  · rename_i hb
    cases e
    have := eq_non hb
    subst this
    refine ⟨rb.non, ?_⟩
    rw [non_iff ra]
    exact q _ G H (Grow.refl sm) (.bl _)
  · cases e
theorem s_notN : OpS X (fun x y H Q => y = .non ∧ Q (.bl (!decide (x = .non))) H) notND := fun G H x y a b d Q sm ra rb e q => by
  unfold notND at e
  split at e
  · rename_i hb
    cases e
    have := eq_non hb
    subst this
    refine ⟨rb.non, ?_⟩
    rw [non_iff ra]
    exact q _ G H (Grow.refl sm) (.bl _)
  · cases e
/-! ### in a text -/
def inStrD : D → D → Option D
  | .str i, .str j => some (.bl (!(Builtin.Str.occurrences j i 0 j.length 1).isEmpty))
  | _, _ => none
def notInStrD : D → D → Option D
  | .str i, .str j => some (.bl (!(!(Builtin.Str.occurrences j i 0 j.length 1).isEmpty)))
  | _, _ => none
theorem s_inStr : OpS X (fun x y H Q => ∃ i j, x = .str i ∧ y = .str j ∧ Q (.bl (!(Builtin.Str.occurrences j i 0 j.length 1).isEmpty)) H) inStrD := fun G H x y a b d Q sm ra rb e q => by
  unfold inStrD at e
  split at e
  · cases e
    rw [ra.str, rb.str]
    exact ⟨_, _, rfl, rfl, q _ G H (Grow.refl sm) (.bl _)⟩
  · cases e
theorem s_notInStr : OpS X (fun x y H Q => ∃ i j, x = .str i ∧ y = .str j ∧ Q (.bl (!(!(Builtin.Str.occurrences j i 0 j.length 1).isEmpty))) H) notInStrD := fun G H x y a b d Q sm ra rb e q => by
  unfold notInStrD at e
  split at e
  · cases e
    rw [ra.str, rb.str]
    exact ⟨_, _, rfl, rfl, q _ G H (Grow.refl sm) (.bl _)⟩
  · cases e
end
end DL

set_option Elab.async false
set_option linter.all false
set_option maxRecDepth 100000
set_option autoImplicit false
set_option maxHeartbeats 1000000
namespace DL
open PySem PySem.Spec PyProof.Rows L2
variable [PWd]
variable {K : PySem.W.Frag} {G G' G'' H H' H'' : Hp} {Z : Addr → Prop} {ι ι' ι'' : List Addr} {M M' : Store} {Γ Γ' : Env} {σ σ' : L2.St}
section
variable {P : Program} {w : World} {mg : Str → Option Value} {base : Heap}
variable {X : Cx} {N : List Str} {sc : Scope} {Wx : WX} {k : Nat} {a b c e : Expr} {es : List Expr} {f g h' : EF} {t u : TF} {af : AF} {pos p : Pos} {x : Str} {id T : String}
/-! ### built-ins -/
theorem de_ty (C : Ctx P w K mg base X N sc Wx k) (hm : mg x = none) (hv : bootBuiltins x = some (.type T)) (hg : sc.names.lookup x = some .globalImplicit := by rfl) (hn : x ≠ "__name__" := by decide) (hd : (x == ("__debug__" : Str)) = false := by decide) :
    DE X Wx Z (.Name x pos) (eC (.ty T)) := ⟨_, pe_bltn (v := .ty T) (C.g hg) (C.m hm) hv rfl hn hd, EOk_c fun _ => .ty T⟩
theorem EOk_call {r : List V → Hp → VK → Prop} {h : List D → Option D} {ta : TA} (hs : CallS X r h) (oa : AOk X Wx Z ta af) : EOk X Wx Z (tCB r ta) (eCall h af) := fun ι M Γ σ G H out Q s e q => by
  refine oa.then s e (EPost.x q) fun ws M1 e1 _ ι1 G1 H1 vs s1 x1 r1 => ?_
  obtain ⟨d, h1, rfl⟩ := Option.map_eq_some_iff.mp e1
  obtain ⟨ds, h2, h1⟩ := Option.bind_eq_some_iff.mp h1
  exact hs G1 H1 vs ds d Q s1.cr.sub (rds_rbs s1.cr r1 h2) h1 fun v G' H' gw rv => q ι1 G' H' v (s1.grow gw) (x1.trans (s1.cr.growE gw)) (.d rv)
theorem de_bif {r : List V → Hp → VK → Prop} {h : List D → Option D} (C : Ctx P w K mg base X N sc Wx k) (hc : CallR X (.builtin id) r) (hs : CallS X r h) (hm : mg x = none) (ha : DA X Wx Z (e :: es) af) (hv : bootBuiltins x = some (.builtin id)) (hg : sc.names.lookup x = some .globalImplicit := by rfl) (hn : x ≠ "__name__" := by decide) (hdb : (x == ("__debug__" : Str)) = false := by decide)
    (he : starEach (e :: es) X.env = (false, eval e X.env) :: starEach es X.env := by rfl) (hpl : (backTo pos (starEach es X.env)).any (·.1) = false := by rfl) : DE X Wx Z (.Call (.Name x p) (e :: es) [] pos) (eCall h af) := by
  obtain ⟨⟨ta, pa, oa⟩, len⟩ := ha
  exact ⟨_, pe_callB hc (C.g hg) (C.m hm) hv pa hn hdb he hpl, EOk_call hs oa⟩
theorem de_bty {r : List V → Hp → VK → Prop} {h : List D → Option D} (C : Ctx P w K mg base X N sc Wx k) (hc : CallR X (.type T) r) (hs : CallS X r h) (hm : mg x = none) (ha : DA X Wx Z (e :: es) af) (hv : bootBuiltins x = some (.type T)) (hg : sc.names.lookup x = some .globalImplicit := by rfl) (hn : x ≠ "__name__" := by decide) (hdb : (x == ("__debug__" : Str)) = false := by decide)
    (he : starEach (e :: es) X.env = (false, eval e X.env) :: starEach es X.env := by rfl) (hpl : (backTo pos (starEach es X.env)).any (·.1) = false := by rfl) : DE X Wx Z (.Call (.Name x p) (e :: es) [] pos) (eCall h af) := by
  obtain ⟨⟨ta, pa, oa⟩, len⟩ := ha
  exact ⟨_, pe_callTy hc (C.g hg) (C.m hm) hv pa hn hdb he hpl, EOk_call hs oa⟩
/-- .. that make a new list -/
def CallL (X : Cx) (r : List V → Hp → VK → Prop) (h : List D → Option (List D)) : Prop := ∀ (G H : Hp) (xs : List V) (as ds : List D) (Q : VK), Same G H → RBs X.K G H xs as → h as = some ds →
  (∀ p vs G' H', Grow G H G' H' → RepL X.K G' vs ds → H' p = none → Q (.ref p) (upd H' p (.lst vs))) → r xs H Q
def mkL (h : List D → Option (List D)) : List D → Option D := fun as => (h as).map .lst
theorem CallL.s {r : List V → Hp → VK → Prop} {h : List D → Option (List D)} (hs : CallL X r h) : CallS X r (mkL h) := fun G H xs as d Q sm rx e q => by
  obtain ⟨ds, h1, rfl⟩ := Option.map_eq_some_iff.mp e
  refine hs G H xs as ds Q sm rx h1 fun p vs G' H' gw rl hp => ?_
  have g2 := gw.new hp (.lst vs)
  exact q _ _ _ g2 (.lst upd_same (rl.mono (Grow.one gw.sub hp _).g))
def eCallC (h : List D → Option (List D)) (f : AF) : EF := fun Γ M => bnd (f Γ M) fun ws M1 => ((rds M1 ws).bind h).map fun ds => .ok (.r M1.length) (M1 ++ [.lst ds])
theorem EOk_callC {r : List V → Hp → VK → Prop} {h : List D → Option (List D)} {ta : TA} (hs : CallL X r h) (oa : AOk X Wx Z ta af) : EOk X Wx Z (tCB r ta) (eCallC h af) := fun ι M Γ σ G H out Q s e q => by
  refine oa.then s e (EPost.x q) fun ws M1 e1 _ ι1 G1 H1 vs s1 x1 r1 => ?_
  obtain ⟨d, h1, rfl⟩ := Option.map_eq_some_iff.mp e1
  obtain ⟨ds, h2, h1⟩ := Option.bind_eq_some_iff.mp h1
  refine hs G1 H1 vs ds d Q s1.cr.sub (rds_rbs s1.cr r1 h2) h1 fun p us G' H' gw rl hp => ?_
  obtain ⟨s2, x2⟩ := (s1.grow gw).newCell hp (CellOk.lst rl) (fun z => nomatch z)
  exact q _ _ _ _ s2 ((x1.trans (s1.cr.growE gw)).trans x2) (.r (by rw [← s1.cr.ln]; simp))
theorem de_bifC {r : List V → Hp → VK → Prop} {h : List D → Option (List D)} (C : Ctx P w K mg base X N sc Wx k) (hc : CallR X (.builtin id) r) (hs : CallL X r h) (hm : mg x = none) (ha : DA X Wx Z (e :: es) af) (hv : bootBuiltins x = some (.builtin id)) (hg : sc.names.lookup x = some .globalImplicit := by rfl) (hn : x ≠ "__name__" := by decide) (hdb : (x == ("__debug__" : Str)) = false := by decide)
    (he : starEach (e :: es) X.env = (false, eval e X.env) :: starEach es X.env := by rfl) (hpl : (backTo pos (starEach es X.env)).any (·.1) = false := by rfl) : DE X Wx Z (.Call (.Name x p) (e :: es) [] pos) (eCallC h af) := by
  obtain ⟨⟨ta, pa, oa⟩, len⟩ := ha
  exact ⟨_, pe_callB hc (C.g hg) (C.m hm) hv pa hn hdb he hpl, EOk_callC hs oa⟩
theorem de_btyC {r : List V → Hp → VK → Prop} {h : List D → Option (List D)} (C : Ctx P w K mg base X N sc Wx k) (hc : CallR X (.type T) r) (hs : CallL X r h) (hm : mg x = none) (ha : DA X Wx Z (e :: es) af) (hv : bootBuiltins x = some (.type T)) (hg : sc.names.lookup x = some .globalImplicit := by rfl) (hn : x ≠ "__name__" := by decide) (hdb : (x == ("__debug__" : Str)) = false := by decide)
    (he : starEach (e :: es) X.env = (false, eval e X.env) :: starEach es X.env := by rfl) (hpl : (backTo pos (starEach es X.env)).any (·.1) = false := by rfl) : DE X Wx Z (.Call (.Name x p) (e :: es) [] pos) (eCallC h af) := by
  obtain ⟨⟨ta, pa, oa⟩, len⟩ := ha
  exact ⟨_, pe_callTy hc (C.g hg) (C.m hm) hv pa hn hdb he hpl, EOk_callC hs oa⟩

/-! ### len, int, abs, max, min -/
theorem rb1 {vs : List V} {d : D} (r : RBs K G H vs [d]) : ∃ v, vs = [v] ∧ RB K G H v d := by
  cases r with
  | cons a t => cases t; exact ⟨_, rfl, a⟩
theorem rb2 {vs : List V} {d d' : D} (r : RBs K G H vs [d, d']) : ∃ v v', vs = [v, v'] ∧ RB K G H v d ∧ RB K G H v' d' := by
  cases r with
  | cons a t => cases t with
    | cons b t => cases t; exact ⟨_, _, rfl, a, b⟩
def lenD : List D → Option D
  | [.str x] => if x.length ≤ sizeLine then some (.int x.length) else none
  | [.lst xs] => some (.int xs.length)
  | [.rol xs] => some (.int xs.length)
  | [.tup xs] => some (.int xs.length)
  | _ => none
theorem s_len : CallS X (fun xs H Q => ∃ x n, xs = [x] ∧ LenV X.K x H n ∧ Q (.int n) H) lenD := fun G H xs as d Q sm rx e q => by
  unfold lenD at e
  split at e
  · rename_i y
    split at e
    · cases e
      obtain ⟨v, rfl, r⟩ := rb1 rx
      rw [r.str]
      exact ⟨_, _, rfl, ⟨by assumption, rfl⟩, q _ G H (Grow.refl sm) (.int _)⟩
    · cases e
  · cases e
    obtain ⟨v, rfl, r⟩ := rb1 rx
    obtain ⟨l, vs, rfl, h1, r1⟩ := r.asL sm
    exact ⟨_, _, rfl, .inl ⟨vs, SqL.of h1, rfl⟩, by rw [r1.length]; exact q _ G H (Grow.refl sm) (.int _)⟩
  · cases e
    obtain ⟨v, rfl, r⟩ := rb1 rx
    obtain ⟨l, vs, rfl, h1, r1⟩ := r.asR sm
    exact ⟨_, _, rfl, .inl ⟨vs, h1, rfl⟩, by rw [r1.length]; exact q _ G H (Grow.refl sm) (.int _)⟩
  · cases e
    obtain ⟨v, rfl, r⟩ := rb1 rx
    obtain ⟨l, vs, rfl, h1, r1⟩ := r.asT sm
    exact ⟨_, _, rfl, .inr ⟨vs, h1, rfl⟩, by rw [r1.length]; exact q _ G H (Grow.refl sm) (.int _)⟩
  · cases e
def absD : List D → Option D
  | [.int i] => some (.int (if i < 0 then -i else i))
  | _ => none
theorem s_abs : CallS X (fun xs H Q => ∃ i, xs = [V.int i] ∧ Q (.int (if i < 0 then -i else i)) H) absD := fun G H xs as d Q sm rx e q => by
  unfold absD at e
  split at e
  · cases e
    obtain ⟨v, rfl, r⟩ := rb1 rx
    rw [r.int]
    exact ⟨_, rfl, q _ G H (Grow.refl sm) (.int _)⟩
  · cases e
def intD : List D → Option D
  | [.int i] => some (.int i)
  | [.bl k] => some (.int (if k then 1 else 0))
  | _ => none
theorem s_int : CallS X (fun xs H Q => (∃ i, xs = [V.int i] ∧ Q (.int i) H) ∨ ∃ k : Bool, xs = [V.bl k] ∧ Q (.int (if k then 1 else 0)) H) intD := fun G H xs as d Q sm rx e q => by
  unfold intD at e
  split at e
  · cases e
    obtain ⟨v, rfl, r⟩ := rb1 rx
    rw [r.int]
    exact .inl ⟨_, rfl, q _ G H (Grow.refl sm) (.int _)⟩
  · cases e
    obtain ⟨v, rfl, r⟩ := rb1 rx
    rw [r.bl]
    exact .inr ⟨_, rfl, q _ G H (Grow.refl sm) (.int _)⟩
  · cases e
/-- the ints of a list -/
def intsO : List D → Option (List Int)
  | [] => some []
  | .int i :: r => (intsO r).map (i :: ·)
  | _ :: _ => none
theorem RepL.ints {ds : List D} : ∀ {vs : List V} {is : List Int}, RepL K G vs ds → intsO ds = some is → vs = is.map V.int := by
  induction ds with
  | nil => intro vs is r e; cases r; cases e; rfl
  | cons d ds ih =>
    intro vs is r e
    cases r with
    | cons a t =>
      cases d with
      | int i =>
        obtain ⟨l, h, rfl⟩ := Option.map_eq_some_iff.mp (show (intsO ds).map (i :: ·) = some is from e)
        cases a
        rw [ih t h]; rfl
      | _ => cases e
/-- the items of a list that may be read -/
def lsO : D → Option (List D)
  | .lst xs => some xs
  | .rol xs => some xs
  | _ => none
theorem RB.asS (sm : Same G H) {v : V} {d : D} {ds : List D} (r : RB K G H v d) (e : lsO d = some ds) : ∃ a vs, v = .ref a ∧ SqL K H a vs ∧ RepL K G vs ds := by
  cases d with
  | lst xs =>
    cases e
    obtain ⟨l, vs, rfl, h1, r1⟩ := r.asL sm
    exact ⟨l, vs, rfl, SqL.of h1, r1⟩
  | rol xs => cases e; exact r.asR sm
  | _ => cases e
def sumD : List D → Option D
  | [x] => (lsO x).bind fun ds => (intsO ds).map fun is => .int is.sum
  | _ => none
theorem s_sum : CallS X (rSum X.K) sumD := fun G H xs as d Q sm rx e q => by
  unfold sumD at e
  split at e
  · obtain ⟨ds, h1, e⟩ := Option.bind_eq_some_iff.mp e
    obtain ⟨is, h2, rfl⟩ := Option.map_eq_some_iff.mp e
    obtain ⟨v, rfl, r⟩ := rb1 rx
    obtain ⟨l, vs, rfl, h3, r1⟩ := r.asS sm h1
    have e1 := r1.ints h2
    subst e1
    exact ⟨l, is, rfl, h3, q _ G H (Grow.refl sm) (.int _)⟩
  · cases e
def maxI : List Int → Option Int
  | [] => none
  | i :: is => some (is.foldl max i)
def minI : List Int → Option Int
  | [] => none
  | i :: is => some (is.foldl min i)
theorem foldl_max (is : List Int) : ∀ i : Int, i ≤ is.foldl max i ∧ (∀ y ∈ is, y ≤ is.foldl max i) ∧ (is.foldl max i = i ∨ is.foldl max i ∈ is) := by
  induction is with
  | nil => intro i; exact ⟨Int.le_refl _, (fun y h => nomatch h), .inl rfl⟩
  | cons j is ih =>
    intro i
    rw [List.foldl_cons]
    obtain ⟨h1, h2, h3⟩ := ih (max i j)
    refine ⟨by omega, fun y hy => ?_, ?_⟩
    · rcases List.mem_cons.mp hy with e | e
      · omega
      · exact h2 y e
    · rcases h3 with h3 | h3
      · rw [h3]
        rcases Int.le_total i j with q | q
        · rw [Int.max_eq_right q]; exact .inr (List.mem_cons_self ..)
        · rw [Int.max_eq_left q]; exact .inl rfl
      · exact .inr (List.mem_cons_of_mem _ h3)
theorem foldl_min (is : List Int) : ∀ i : Int, is.foldl min i ≤ i ∧ (∀ y ∈ is, is.foldl min i ≤ y) ∧ (is.foldl min i = i ∨ is.foldl min i ∈ is) := by
  induction is with
  | nil => intro i; exact ⟨Int.le_refl _, (fun y h => nomatch h), .inl rfl⟩
  | cons j is ih =>
    intro i
    rw [List.foldl_cons]
    obtain ⟨h1, h2, h3⟩ := ih (min i j)
    refine ⟨by omega, fun y hy => ?_, ?_⟩
    · rcases List.mem_cons.mp hy with e | e
      · omega
      · exact h2 y e
    · rcases h3 with h3 | h3
      · rw [h3]
        rcases Int.le_total i j with q | q
        · rw [Int.min_eq_left q]; exact .inl rfl
        · rw [Int.min_eq_right q]; exact .inr (List.mem_cons_self ..)
      · exact .inr (List.mem_cons_of_mem _ h3)
theorem maxI_spec {is : List Int} {m : Int} (h : maxI is = some m) : m ∈ is ∧ ∀ y ∈ is, y ≤ m := by
  cases is with
  | nil => cases h
  | cons i is =>
    cases h
    obtain ⟨h1, h2, h3⟩ := foldl_max is i
    refine ⟨h3.elim (fun e => by rw [e]; exact List.mem_cons_self ..) fun e => List.mem_cons_of_mem _ e, fun y hy => ?_⟩
    rcases List.mem_cons.mp hy with e | e
    · rw [e]; exact h1
    · exact h2 y e
theorem minI_spec {is : List Int} {m : Int} (h : minI is = some m) : m ∈ is ∧ ∀ y ∈ is, m ≤ y := by
  cases is with
  | nil => cases h
  | cons i is =>
    cases h
    obtain ⟨h1, h2, h3⟩ := foldl_min is i
    refine ⟨h3.elim (fun e => by rw [e]; exact List.mem_cons_self ..) fun e => List.mem_cons_of_mem _ e, fun y hy => ?_⟩
    rcases List.mem_cons.mp hy with e | e
    · rw [e]; exact h1
    · exact h2 y e
def max1D : List D → Option D
  | [x] => (lsO x).bind fun ds => (intsO ds).bind fun is => (maxI is).map .int
  | _ => none
def min1D : List D → Option D
  | [x] => (lsO x).bind fun ds => (intsO ds).bind fun is => (minI is).map .int
  | _ => none
theorem s_max1 : CallS X (rMax X.K) max1D := fun G H xs as d Q sm rx e q => by
  unfold max1D at e
  split at e
  · obtain ⟨ds, h1, e⟩ := Option.bind_eq_some_iff.mp e
    obtain ⟨is, h2, e⟩ := Option.bind_eq_some_iff.mp e
    obtain ⟨m, h4, rfl⟩ := Option.map_eq_some_iff.mp e
    obtain ⟨v, rfl, r⟩ := rb1 rx
    obtain ⟨l, vs, rfl, h3, r1⟩ := r.asS sm h1
    have e1 := r1.ints h2
    subst e1
    obtain ⟨m1, m2⟩ := maxI_spec h4
    refine ⟨l, is, rfl, h3, List.length_pos_of_mem m1, fun m' a1 a2 => ?_⟩
    rw [Int.le_antisymm (m2 m' a1) (a2 m m1)]
    exact q _ G H (Grow.refl sm) (.int _)
  · cases e
theorem s_min1 : CallS X (rMin X.K) min1D := fun G H xs as d Q sm rx e q => by
  unfold min1D at e
  split at e
  · obtain ⟨ds, h1, e⟩ := Option.bind_eq_some_iff.mp e
    obtain ⟨is, h2, e⟩ := Option.bind_eq_some_iff.mp e
    obtain ⟨m, h4, rfl⟩ := Option.map_eq_some_iff.mp e
    obtain ⟨v, rfl, r⟩ := rb1 rx
    obtain ⟨l, vs, rfl, h3, r1⟩ := r.asS sm h1
    have e1 := r1.ints h2
    subst e1
    obtain ⟨m1, m2⟩ := minI_spec h4
    refine ⟨l, is, rfl, h3, List.length_pos_of_mem m1, fun m' a1 a2 => ?_⟩
    rw [Int.le_antisymm (a2 m m1) (m2 m' a1)]
    exact q _ G H (Grow.refl sm) (.int _)
  · cases e
def max2D : List D → Option D
  | [.int i, .int j] => some (.int (if j > i then j else i))
  | _ => none
def min2D : List D → Option D
  | [.int i, .int j] => some (.int (if j < i then j else i))
  | _ => none
theorem s_max2 : CallS X (fun xs H Q => ∃ i j, xs = [V.int i, V.int j] ∧ Q (.int (if j > i then j else i)) H) max2D := fun G H xs as d Q sm rx e q => by
  unfold max2D at e
  split at e
  · cases e
    obtain ⟨v, v', rfl, r, r'⟩ := rb2 rx
    rw [r.int, r'.int]
    exact ⟨_, _, rfl, q _ G H (Grow.refl sm) (.int _)⟩
  · cases e
theorem s_min2 : CallS X (fun xs H Q => ∃ i j, xs = [V.int i, V.int j] ∧ Q (.int (if j < i then j else i)) H) min2D := fun G H xs as d Q sm rx e q => by
  unfold min2D at e
  split at e
  · cases e
    obtain ⟨v, v', rfl, r, r'⟩ := rb2 rx
    rw [r.int, r'.int]
    exact ⟨_, _, rfl, q _ G H (Grow.refl sm) (.int _)⟩
  · cases e
/-! ### any, all -/
def blsO : List D → Option (List Bool)
  | [] => some []
  | .bl i :: r => (blsO r).map (i :: ·)
  | _ :: _ => none
theorem RepL.bls {ds : List D} : ∀ {vs : List V} {is : List Bool}, RepL K G vs ds → blsO ds = some is → vs = is.map V.bl := by
  induction ds with
  | nil => intro vs is r e; cases r; cases e; rfl
  | cons d ds ih =>
    intro vs is r e
    cases r with
    | cons a t =>
      cases d with
      | bl i =>
        obtain ⟨l, h, rfl⟩ := Option.map_eq_some_iff.mp (show (blsO ds).map (i :: ·) = some is from e)
        cases a
        rw [ih t h]; rfl
      | _ => cases e
def allBD : List D → Option D
  | [x] => (lsO x).bind fun ds => (blsO ds).map fun is => .bl (is.all fun b => b)
  | _ => none
def anyBD : List D → Option D
  | [x] => (lsO x).bind fun ds => (blsO ds).map fun is => .bl (is.any fun b => b)
  | _ => none
theorem s_all : CallS X (rAll X.K) allBD := fun G H xs as d Q sm rx e q => by
  unfold allBD at e
  split at e
  · obtain ⟨ds, h1, e⟩ := Option.bind_eq_some_iff.mp e
    obtain ⟨is, h2, rfl⟩ := Option.map_eq_some_iff.mp e
    obtain ⟨v, rfl, r⟩ := rb1 rx
    obtain ⟨l, vs, rfl, h3, r1⟩ := r.asS sm h1
    have e1 := r1.bls h2
    subst e1
    exact ⟨l, is, rfl, h3, q _ G H (Grow.refl sm) (.bl _)⟩
  · cases e
theorem s_any : CallS X (rAny X.K) anyBD := fun G H xs as d Q sm rx e q => by
  unfold anyBD at e
  split at e
  · obtain ⟨ds, h1, e⟩ := Option.bind_eq_some_iff.mp e
    obtain ⟨is, h2, rfl⟩ := Option.map_eq_some_iff.mp e
    obtain ⟨v, rfl, r⟩ := rb1 rx
    obtain ⟨l, vs, rfl, h3, r1⟩ := r.asS sm h1
    have e1 := r1.bls h2
    subst e1
    exact ⟨l, is, rfl, h3, q _ G H (Grow.refl sm) (.bl _)⟩
  · cases e
/-! ### list(), tuple() -/
def seqO : D → Option (List D)
  | .lst xs => some xs
  | .rol xs => some xs
  | .tup xs => some xs
  | _ => none
theorem RB.asQ (sm : Same G H) {v : V} {d : D} {ds : List D} (r : RB K G H v d) (e : seqO d = some ds) : ∃ a vs, v = .ref a ∧ (SqL K H a vs ∨ SqT K H a vs) ∧ RepL K G vs ds := by
  cases d with
  | lst xs =>
    cases e
    obtain ⟨l, vs, rfl, h1, r1⟩ := r.asL sm
    exact ⟨l, vs, rfl, .inl (SqL.of h1), r1⟩
  | rol xs => cases e; obtain ⟨l, vs, rfl, h1, r1⟩ := r.asR sm; exact ⟨l, vs, rfl, .inl h1, r1⟩
  | tup xs => cases e; obtain ⟨l, vs, rfl, h1, r1⟩ := r.asT sm; exact ⟨l, vs, rfl, .inr h1, r1⟩
  | _ => cases e
def listOf : List D → Option (List D)
  | [x] => seqO x
  | _ => none
theorem s_list : CallL X (fun xs H Q => ∃ p ys, xs = [V.ref p] ∧ (SqL X.K H p ys ∨ SqT X.K H p ys) ∧ ∀ l, H l = none → Q (.ref l) (upd H l (.lst ys))) listOf := fun G H xs as ds Q sm rx e q => by
  unfold listOf at e
  split at e
  · obtain ⟨v, rfl, r⟩ := rb1 rx
    obtain ⟨l, vs, rfl, h1, r1⟩ := r.asQ sm e
    exact ⟨l, vs, rfl, h1, fun p hp => q p vs G H (Grow.refl sm) r1 hp⟩
  · cases e
def tupleOf : List D → Option D
  | [.lst xs] => some (.tup xs)
  | [.rol xs] => some (.tup xs)
  | [.tup xs] => some (.tup xs)
  | _ => none
theorem s_tuple : CallS X (fun xs H Q => ∃ p ys, xs = [V.ref p] ∧ ((SqL X.K H p ys ∧ ∀ l, H l = none → Q (.ref l) (upd H l (.tup ys))) ∨ (SqT X.K H p ys ∧ Q (.ref p) H))) tupleOf := fun G H xs as d Q sm rx e q => by
  have one : ∀ {l : Addr} {vs : List V} {ds : List D}, RepL X.K G vs ds → d = .tup ds → ∀ p, H p = none → Q (.ref p) (upd H p (.tup vs)) := fun {l vs ds} r1 e p hp => by
    subst e
    have gw := Grow.one (o := .tup vs) sm hp
    exact q _ _ _ gw (.tup (SqT.of upd_same) (r1.mono gw.g))
  unfold tupleOf at e
  split at e
  · cases e
    obtain ⟨v, rfl, r⟩ := rb1 rx
    obtain ⟨l, vs, rfl, h1, r1⟩ := r.asL sm
    exact ⟨l, vs, rfl, .inl ⟨SqL.of h1, one (l := l) r1 rfl⟩⟩
  · cases e
    obtain ⟨v, rfl, r⟩ := rb1 rx
    obtain ⟨l, vs, rfl, h1, r1⟩ := r.asR sm
    exact ⟨l, vs, rfl, .inl ⟨h1, one (l := l) r1 rfl⟩⟩
  · cases e
    obtain ⟨v, rfl, r⟩ := rb1 rx
    obtain ⟨l, vs, rfl, g1, h1, r1⟩ := asT_full sm r
    exact ⟨l, vs, rfl, .inr ⟨h1, q _ G H (Grow.refl sm) (.tup g1 r1)⟩⟩
  · cases e
/-! ### isinstance, one built-in class -/
def tyN : D → Option String
  | .non => some "NoneType"
  | .bl _ => some "bool"
  | .int _ => some "int"
  | .str _ => some "str"
  | .tup _ => some "tuple"
  | .lst _ => some "list"
  | .rol _ => some "list"
  | .dic _ => some "dict"
  | _ => none
def isaT (t : String) (x : D) : Option Bool := (tyN x).bind fun a => kitB a t
def isaD : List D → Option D
  | [x, .ty t] => (isaT t x).map .bl
  | _ => none
theorem tyX_of (sm : Same G H) {v : V} {d : D} {t : String} (r : RB K G H v d) (e : tyN d = some t) : TyX K H v (.type t) := by
  cases d with
  | non => cases e; rw [r.non]; exact .base .non
  | bl b => cases e; rw [r.bl]; exact .base (.bl b)
  | int b => cases e; rw [r.int]; exact .base (.int b)
  | str b => cases e; rw [r.str]; exact .base (.str b)
  | tup xs =>
    cases e
    obtain ⟨l, vs, rfl, h1, r1⟩ := r.asT sm
    rcases h1 with (h1 | ⟨o, h1⟩) | ⟨o, its, n, h1, h2, _⟩
    · exact .base (.tup h1)
    · exact .fTuple h1
    · exact .kTuple h1 h2
  | lst xs =>
    cases e
    obtain ⟨l, vs, rfl, h1, r1⟩ := r.asL sm
    exact .base (.lst h1)
  | rol xs =>
    cases e
    obtain ⟨l, vs, rfl, h1, r1⟩ := r.asR sm
    rcases h1 with (h1 | ⟨o, h1⟩) | ⟨o, its, n, h1, h2, _⟩
    · exact .base (.lst h1)
    · exact .base (.frz h1)
    · exact .kList h1 h2
  | dic xs =>
    cases e
    obtain ⟨l, vs, rfl, h1, r1⟩ := r.asP sm
    rcases h1 with h1 | ⟨o, h1⟩
    · exact .base (.dK h1)
    · exact .fDict h1
  | _ => cases e
theorem RB.ty {v : V} {n : String} (r : RB K G H v (.ty n)) : v = .ty n := by
  cases r with
  | rep r => cases r; rfl
theorem s_isa : CallS X (rIsi X.K) isaD := fun G H xs as d Q sm rx e q => by
  unfold isaD at e
  split at e
  · obtain ⟨b, h1, rfl⟩ := Option.map_eq_some_iff.mp e
    obtain ⟨a, h2, h3⟩ := Option.bind_eq_some_iff.mp h1
    obtain ⟨v, v', rfl, r, r'⟩ := rb2 rx
    rw [r'.ty]
    exact ⟨v, _, _, _, b, rfl, .ty _, tyX_of sm r h2, kit_ty h3, q _ G H (Grow.refl sm) (.bl _)⟩
  · cases e
/-- the answers for a class by the kind of the value -/
def kitC (t : String) (i b s tu l d n : Bool) : Prop := ∀ x : D, isaT t x = match x with
  | .non => some n
  | .bl _ => some b
  | .int _ => some i
  | .str _ => some s
  | .tup _ => some tu
  | .lst _ => some l
  | .rol _ => some l
  | .dic _ => some d
  | _ => none
theorem kit_int : kitC "int" true true false false false false false := fun x => by cases x <;> first | rfl | (show kitB _ _ = some _; decide +kernel)
theorem kit_bool : kitC "bool" false true false false false false false := fun x => by cases x <;> first | rfl | (show kitB _ _ = some _; decide +kernel)
theorem kit_str : kitC "str" false false true false false false false := fun x => by cases x <;> first | rfl | (show kitB _ _ = some _; decide +kernel)
theorem kit_tuple : kitC "tuple" false false false true false false false := fun x => by cases x <;> first | rfl | (show kitB _ _ = some _; decide +kernel)
theorem kit_list : kitC "list" false false false false true false false := fun x => by cases x <;> first | rfl | (show kitB _ _ = some _; decide +kernel)
theorem kit_dict : kitC "dict" false false false false false true false := fun x => by cases x <;> first | rfl | (show kitB _ _ = some _; decide +kernel)
/-! ### str of an int, of a text -/
def strD : List D → Option D
  | [.int i] => if i.natAbs.log2 < 1920 then some (.str (toString i)) else none
  | _ => none
theorem s_strI : CallS X (fun xs H Q => ∃ i, xs = [V.int i] ∧ i.natAbs.log2 < 1920 ∧ Q (.str (toString i)) H) strD := fun G H xs as d Q sm rx e q => by
  unfold strD at e
  split at e
  · split at e
    · cases e
      obtain ⟨v, rfl, r⟩ := rb1 rx
      rw [r.int]
      exact ⟨_, rfl, by assumption, q _ G H (Grow.refl sm) (.str _)⟩
    · cases e
  · cases e
end
end DL

set_option Elab.async false
set_option linter.all false
set_option maxRecDepth 100000
set_option autoImplicit false
set_option maxHeartbeats 1000000
namespace DL
open PySem PySem.Spec PyProof.Rows L2
variable [PWd]
variable {K : PySem.W.Frag} {G G' G'' H H' H'' : Hp} {Z : Addr → Prop} {ι ι' ι'' : List Addr} {M M' : Store} {Γ Γ' : Env} {σ σ' : L2.St}
section
variable {X : Cx} {N : List Str} {sc : Scope} {Wx : WX} {k : Nat} {a b c e o : Expr} {es : List Expr} {f g h' : EF} {t u : TF} {af : AF} {pos p apos cpos p2 : Pos} {x name : Str} {id T : String}
/-! ### a[i] -/
theorem RepL.atI {vs : List V} {ds : List D} {i : Int} {d : D} (r : RepL K G vs ds) (h : atI ds i = some d) : ∃ v, L2.atI vs i = some v ∧ Rep K G v d := by
  unfold L2.atI at h ⊢
  rw [r.length]
  obtain ⟨j, h1, h2⟩ := Option.bind_eq_some_iff.mp h
  obtain ⟨v, h3, h4⟩ := r.get h2
  exact ⟨v, by rw [h1]; exact h3, h4⟩
def ixD : D → D → Option D
  | .lst xs, .int i => atI xs i
  | .rol xs, .int i => atI xs i
  | .tup xs, .int i => atI xs i
  | .str z, .int i => if z.length ≤ sizeLine then (atI z.cps.toList i).map fun c => .str ⟨#[c]⟩ else none
  | _, _ => none
theorem s_ix : OpS X (rIx X.K) ixD := fun G H x y a b d Q sm ra rb e q => by
  unfold ixD at e
  split at e
  · rename_i xs i
    obtain ⟨l, vs, rfl, h1, r1⟩ := ra.asL sm
    rw [rb.int]
    obtain ⟨v, h2, h3⟩ := r1.atI e
    exact .inl ⟨l, vs, i, v, rfl, rfl, SqL.of h1, h2, q v G H (Grow.refl sm) h3⟩
  · rename_i xs i
    obtain ⟨l, vs, rfl, h1, r1⟩ := ra.asR sm
    rw [rb.int]
    obtain ⟨v, h2, h3⟩ := r1.atI e
    exact .inl ⟨l, vs, i, v, rfl, rfl, h1, h2, q v G H (Grow.refl sm) h3⟩
  · rename_i xs i
    obtain ⟨l, vs, rfl, h1, r1⟩ := ra.asT sm
    rw [rb.int]
    obtain ⟨v, h2, h3⟩ := r1.atI e
    exact .inr (.inl ⟨l, vs, i, v, rfl, rfl, h1, h2, q v G H (Grow.refl sm) h3⟩)
  · rename_i z i
    split at e
    · rename_i hz
      obtain ⟨c, h1, rfl⟩ := Option.map_eq_some_iff.mp e
      rw [ra.str, rb.int]
      exact .inr (.inr ⟨z, i, c, rfl, rfl, hz, h1, q _ G H (Grow.refl sm) (.str _)⟩)
    · cases e
  · cases e
theorem de_ix (ha : DE X Wx Z a f) (hb : DE X Wx Z b g) (hs : PlainIx b := by intro _ _; rfl) : DE X Wx Z (.Subscript a b pos) (eOp ixD f g) := by
  obtain ⟨ta, pa, oa⟩ := ha
  obtain ⟨tb, pb, ob⟩ := hb
  exact ⟨_, pe_ix ix_seq pa pb hs, EOk_op s_ix oa ob⟩
/-! ### a[lo:hi] -/
abbrev OF := Env → Store → Option (Out (Option Int))
def OPost (X : Cx) (Wx : WX) (Z : Addr → Prop) (ι : List Addr) (Γ : Env) (σ : L2.St) (G H : Hp) (Q : Option Int → Hp → Prop) : Out (Option Int) → Prop
  | .ok b M' => ∀ ι' G' H', SR X.K Z ι' M' Γ σ G' H' → Ext Z ι G H ι' G' H' → Q b H'
  | .exc x M' => XPost X Wx Z ι Γ σ G H x M'
def OOk (X : Cx) (Wx : WX) (Z : Addr → Prop) (t : TO) (f : OF) : Prop := ∀ ι M Γ σ G H out Q, SR X.K Z ι M Γ σ G H → f Γ M = some out → OPost X Wx Z ι Γ σ G H Q out → t σ H Q
structure DO (X : Cx) (Wx : WX) (Z : Addr → Prop) (e : Option Expr) (f : OF) : Prop where
  ex : ∃ t, PO X e t ∧ OOk X Wx Z t f
def oNone : OF := fun _ M => some (.ok none M)
def intW : W → Option Int
  | .d (.int i) => some i
  | _ => none
def oSome (f : EF) : OF := fun Γ M => bnd (f Γ M) fun w M1 => (intW w).map fun i => .ok (some i) M1
theorem do_none : DO X Wx Z none oNone := ⟨_, po_none, fun ι M Γ σ G H out Q s e q => by
  cases e
  exact q ι G H s Ext.refl⟩
theorem intW_int {w : W} {i : Int} (h : intW w = some i) : w = .d (.int i) := by
  unfold intW at h
  split at h
  · cases h; rfl
  · cases h
theorem do_some (ha : DE X Wx Z a f) : DO X Wx Z (some a) (oSome f) := by
  obtain ⟨ta, pa, oa⟩ := ha
  refine ⟨_, po_some pa, fun ι M Γ σ G H out Q s e q => ?_⟩
  refine oa.then s e (fun x M' e => by subst e; exact q) fun w M1 e1 ι1 G1 H1 v s1 x1 r1 => ?_
  obtain ⟨i, h1, rfl⟩ := Option.map_eq_some_iff.mp e1
  rw [intW_int h1] at r1
  cases r1 with
  | d r => cases r; exact ⟨i, rfl, q ι1 G1 H1 s1 x1⟩
theorem OOk.then {t : TO} {f : OF} (h : OOk X Wx Z t f) {Q : Option Int → Hp → Prop} {β : Type} {k : Option Int → Store → Option (Out β)} {out : Out β} (s : SR X.K Z ι M Γ σ G H) (e : bnd (f Γ M) k = some out)
    (hx : ∀ x M', out = .exc x M' → XPost X Wx Z ι Γ σ G H x M')
    (hq : ∀ w M1, k w M1 = some out → ∀ ι' G' H', SR X.K Z ι' M1 Γ σ G' H' → Ext Z ι G H ι' G' H' → Q w H') : t σ H Q := by
  rcases bnd_some e with ⟨w, M1, e1, e2⟩ | ⟨x, M1, e1, e2⟩
  · exact h ι M Γ σ G H _ Q s e1 (hq w M1 e2)
  · exact h ι M Γ σ G H _ Q s e1 (hx x M1 e2)
def cutD (xs : List D) (lo hi : Option Int) : List D := (xs.drop (HT.sIx xs.length 0 lo)).take (HT.sIx xs.length xs.length hi - HT.sIx xs.length 0 lo)
theorem RepL.cut {vs : List V} {ds : List D} (r : RepL K G vs ds) (lo hi : Option Int) : RepL K G (cutV vs lo hi) (cutD ds lo hi) := by
  unfold cutV cutD
  rw [r.length]
  exact (r.drop _).take _
def slD (x : D) (lo hi : Option Int) : Option D := match x with
  | .lst xs => some (.lst (cutD xs lo hi))
  | .rol xs => some (.lst (cutD xs lo hi))
  | .tup xs => some (.tup (cutD xs lo hi))
  | .str z => if z.length ≤ sizeLine then some (.str (cutS z lo hi)) else none
  | _ => none
def rSl (K : PySem.W.Frag) : V → Option Int → Option Int → Hp → VK → Prop := fun x lo hi H Q => rSlL K x lo hi H Q ∨ rSlA K x lo hi H Q ∨ rSlS x lo hi H Q
theorem cutD_whole {xs : List D} {lo hi : Option Int} (h : HT.sIx xs.length 0 lo = 0 ∧ HT.sIx xs.length xs.length hi = xs.length) : cutD xs lo hi = xs := by
  unfold cutD
  rw [h.1, h.2, List.drop_zero, Nat.sub_zero, List.take_length]
theorem s_sl {G H : Hp} {x : V} {a d : D} {lo hi : Option Int} {Q : VK} (sm : Same G H) (ra : RB X.K G H x a) (e : slD a lo hi = some d) (q : ∀ v G' H', Grow G H G' H' → Rep X.K G' v d → Q v H') : rSl X.K x lo hi H Q := by
  unfold slD at e
  split at e
  · rename_i xs
    cases e
    obtain ⟨l, vs, rfl, h1, r1⟩ := ra.asL sm
    refine .inl ⟨l, vs, rfl, SqL.of h1, fun p hp => ?_⟩
    have gw := Grow.one (o := .lst (cutV vs lo hi)) sm hp
    exact q _ _ _ gw (.lst upd_same ((r1.cut lo hi).mono gw.g))
  · rename_i xs
    cases e
    obtain ⟨l, vs, rfl, h1, r1⟩ := ra.asR sm
    refine .inl ⟨l, vs, rfl, h1, fun p hp => ?_⟩
    have gw := Grow.one (o := .lst (cutV vs lo hi)) sm hp
    exact q _ _ _ gw (.lst upd_same ((r1.cut lo hi).mono gw.g))
  · rename_i xs
    cases e
    obtain ⟨l, vs, rfl, g1, h1, r1⟩ := asT_full sm ra
    refine .inr (.inl ⟨l, vs, rfl, h1, fun hw => ?_, fun hw p hp => ?_⟩)
    · rw [r1.length] at hw
      rw [cutD_whole hw] at q
      exact q _ G H (Grow.refl sm) (.tup g1 r1)
    · have gw := Grow.one (o := .tup (cutV vs lo hi)) sm hp
      exact q _ _ _ gw (.tup (SqT.of upd_same) ((r1.cut lo hi).mono gw.g))
  · rename_i z
    split at e
    · rename_i hz
      cases e
      rw [ra.str]
      exact .inr (.inr ⟨z, rfl, hz, q _ G H (Grow.refl sm) (.str _)⟩)
    · cases e
  · cases e
def eSl (f : EF) (l u : OF) : EF := fun Γ M => bnd (f Γ M) fun w M1 => bnd (l Γ M1) fun lo M2 => bnd (u Γ M2) fun hi M3 => ((rd M3 w).bind fun x => slD x lo hi).map fun d => .ok (.d d) M3
theorem de_sl {lo hi : Option Expr} {l u : OF} (ha : DE X Wx Z a f) (hl : DO X Wx Z lo l) (hh : DO X Wx Z hi u) : DE X Wx Z (.Subscript a (.Slice lo hi none p2) pos) (eSl f l u) := by
  obtain ⟨ta, pa, oa⟩ := ha
  obtain ⟨tl, pl, ol⟩ := hl
  obtain ⟨tu, pu, ou⟩ := hh
  refine ⟨_, pe_slice (SlR.or sl_list (SlR.or sl_tupA sl_str)) pa pl pu, fun ι M Γ σ G H out Q s e q => ?_⟩
  refine oa.then s e (EPost.x q) fun w M1 e1 ι1 G1 H1 v s1 x1 r1 => ?_
  refine ol.then s1 e1 (EPost.x (q.ext x1)) fun lo M2 e2 ι2 G2 H2 s2 x2 => ?_
  refine ou.then s2 e2 (EPost.x ((q.ext x1).ext x2)) fun hi M3 e3 ι3 G3 H3 s3 x3 => ?_
  obtain ⟨d, h1, rfl⟩ := Option.map_eq_some_iff.mp e3
  obtain ⟨y, h2, h1⟩ := Option.bind_eq_some_iff.mp h1
  exact s_sl s3.cr.sub (s3.cr.rb (x3.rw (x2.rw r1)) h2) h1 fun v' G' H' gw rv => q ι3 G' H' v' (s3.grow gw) (((x1.trans x2).trans x3).trans (s3.cr.growE gw)) (.d rv)
/-! ### a[::-1] -/
def revD : D → Option D
  | .lst xs => some (.lst xs.reverse)
  | .rol xs => some (.lst xs.reverse)
  | _ => none
def revT : D → Option D
  | .tup xs => if xs.length ≤ sizeLine then some (.tup xs.reverse) else none
  | _ => none
theorem RepL.reverse {vs : List V} {ds : List D} (r : RepL K G vs ds) : RepL K G vs.reverse ds.reverse := by
  induction vs generalizing ds with
  | nil => cases r; exact .nil
  | cons v vs ih => cases r with
    | cons x t => rw [List.reverse_cons, List.reverse_cons]; exact (ih t).append (.cons x .nil)
def eRev (h : D → Option D) (f : EF) : EF := eUn h f
theorem de_revL {kk : Nat} {p1 p3 : Pos} (ha : DE X Wx Z a f) : DE X Wx Z (.Subscript a (.Slice none none (some (.UnaryOp .USub (.Constant (.int 1) kk p1) p2)) p3) pos) (eUn revD f) := by
  obtain ⟨ta, pa, oa⟩ := ha
  refine ⟨_, pe_revL pa, fun ι M Γ σ G H out Q s e q => ?_⟩
  refine oa.then s e (EPost.x q) fun w M1 e1 ι1 G1 H1 v s1 x1 r1 => ?_
  obtain ⟨d, h1, rfl⟩ := Option.map_eq_some_iff.mp e1
  obtain ⟨da, h2, h1⟩ := Option.bind_eq_some_iff.mp h1
  have rb := s1.cr.rb r1 h2
  have fin : ∀ vs ds, RepL X.K G1 vs ds → d = .lst ds.reverse → ∀ p, H1 p = none → Q (.ref p) (upd H1 p (.lst vs.reverse)) := fun vs ds rl ed p hp => by
    subst ed
    have gw := Grow.one (o := .lst vs.reverse) s1.cr.sub hp
    exact q ι1 _ _ _ (s1.grow gw) (x1.trans (s1.cr.growE gw)) (.d (.lst upd_same (rl.reverse.mono gw.g)))
  unfold revD at h1
  split at h1
  · cases h1
    obtain ⟨l, vs, rfl, h3, rl⟩ := rb.asL s1.cr.sub
    exact ⟨l, vs, rfl, SqL.of h3, fin vs _ rl rfl⟩
  · cases h1
    obtain ⟨l, vs, rfl, h3, rl⟩ := rb.asR s1.cr.sub
    exact ⟨l, vs, rfl, h3, fin vs _ rl rfl⟩
  · cases h1
/-! ### in, plain data -/
theorem any_map {α β : Type} (f : β → Bool) (g : α → β) (l : List α) : (l.map g).any f = l.any fun x => f (g x) := by
  induction l with
  | nil => rfl
  | cons a l ih => rw [List.map_cons, List.any_cons, List.any_cons, ih]
/-- the answer of an item, read off its value -/
noncomputable def mq (K : PySem.W.Frag) (H : Hp) (x : D) (u : Value) : Bool := @decide (∃ v d, RelV v u ∧ Rep K H v d ∧ pl d = true ∧ eqD d x = true) (Classical.propDecidable _)
theorem mq_of {pins : List (Addr × Obj)} {s : Shared} (I : Inv X pins σ H s) {x d : D} {v : V} {u : Value} (rv : RelV v u) (r : Rep X.K H v d) (p : pl d = true) : mq X.K H x u = eqD d x := by
  unfold mq
  by_cases h : eqD d x = true
  · rw [h]; exact @decide_eq_true _ (Classical.propDecidable _) ⟨v, d, rv, r, p, h⟩
  · rw [Bool.not_eq_true] at h
    rw [h]
    refine @decide_eq_false _ (Classical.propDecidable _) ?_
    rintro ⟨v', d', rv', r', p', h'⟩
    have e1 := rv'.inj rv
    subst e1
    have e2 := Rep_uniq I _ d' d v' (Nat.le_refl _) p' p r' r
    subst e2
    rw [h] at h'; cases h'
theorem any_mq {pins : List (Addr × Obj)} {s : Shared} (I : Inv X pins σ H s) {x : D} : ∀ {vs : List V} {ds : List D} {us : List Value}, Vals vs us → RepL X.K H vs ds → plL ds = true → us.any (mq X.K H x) = ds.any fun d => eqD d x
  | _, _, _, .nil, .nil, _ => rfl
  | _, _, _, .cons rv t, .cons r q, p => by
    rw [plL, Bool.and_eq_true] at p
    rw [List.any_cons, List.any_cons, mq_of I rv r p.1, any_mq I t q p.2]
theorem mq_eqAt {pins : List (Addr × Obj)} {s : Shared} {A : Around} (I : Inv X pins σ H s) {x : D} {vx : V} {ux : Value} (rx : RelV vx ux) (qx : Rep X.K H vx x) (px : pl x = true) (hu : A.units + dep x < cLine) :
    ∀ {vs : List V} {ds : List D} {us : List Value}, Vals vs us → RepL X.K H vs ds → plL ds = true → ∀ u ∈ us, SeqAt.EqAt A s u ux (mq X.K H x u)
  | _, _, _, .nil, .nil, _ => fun u hu => by cases hu
  | _, _, _, .cons (b := w) rv t, .cons (d := d) r q, p => fun u hu' => by
    rw [plL, Bool.and_eq_true] at p
    rcases List.mem_cons.mp hu' with e | e
    · subst e
      rw [mq_of I rv r p.1]
      exact EqAt_rep I _ A d x _ vx _ ux (Nat.le_refl _) (by omega) p.1 px r qx rv rx
    · exact mq_eqAt I rx qx px hu t q p.2 u e
def inOk (a : D) (ds : List D) : Bool := pl a && plL ds && decide (dep a ≤ 190)
def rInG (K : PySem.W.Frag) (neg : Bool) : R2 := fun x y H Q => ∃ p vs a ds, y = .ref p ∧ (SqL K H p vs ∨ SqT K H p vs) ∧ Rep K H x a ∧ RepL K H vs ds ∧ inOk a ds = true ∧ Q (.bl (xor neg (ds.any fun d => eqD d a))) H
theorem inOk_of {a : D} {ds : List D} (h : inOk a ds = true) : pl a = true ∧ plL ds = true ∧ dep a ≤ 190 := by
  unfold inOk at h
  rw [Bool.and_eq_true, Bool.and_eq_true] at h
  exact ⟨h.1.1, h.1.2, of_decide_eq_true h.2⟩
theorem op_inG (hr : Room k X.A) : OpR X (compareOp .In) (rInG X.K false) := by
  intro pins s σ H x y v u Q I rx ry h
  obtain ⟨p, vs, a, ds, rfl, hq, ra, rl, ok, q⟩ := h
  obtain ⟨pa, pd, hd⟩ := inOk_of ok
  have hu : X.A.in1.units + dep a < cLine := by have := hr.un; have e : X.A.in1.units = X.A.units + 1 := rfl; omega
  rw [Bool.false_xor] at q
  cases ry
  rcases hq with hq | hq
  · obtain ⟨its, r, pl', hz⟩ := I.list hq
    refine SeqAt.in_listAt (mq X.K H a) pl'.isList (fun w hw => mq_eqAt I rx ra pa hu r rl pd w (by simpa using hw)) ⟨.bl _, H, I, rfl, ?_⟩
    rw [show its.toArray.any (mq X.K H a) = its.any (mq X.K H a) by simp, any_mq I r rl pd]
    exact q
  · obtain ⟨its, r, pl', hz⟩ := I.tuple hq
    refine SeqAt.in_tupleAt (mq X.K H a) pl' (fun w hw => mq_eqAt I rx ra pa hu r rl pd w (by simpa using hw)) ⟨.bl _, H, I, rfl, ?_⟩
    rw [show its.toArray.any (mq X.K H a) = its.any (mq X.K H a) by simp, any_mq I r rl pd]
    exact q
theorem op_ninG (hr : Room k X.A) : OpR X (compareOp .NotIn) (rInG X.K true) := by
  intro pins s σ H x y v u Q I rx ry h
  obtain ⟨p, vs, a, ds, rfl, hq, ra, rl, ok, q⟩ := h
  obtain ⟨pa, pd, hd⟩ := inOk_of ok
  have hu : X.A.in1.units + dep a < cLine := by have := hr.un; have e : X.A.in1.units = X.A.units + 1 := rfl; omega
  rw [Bool.true_xor] at q
  cases ry
  rcases hq with hq | hq
  · obtain ⟨its, r, pl', hz⟩ := I.list hq
    refine SeqAt.notIn_listAt (mq X.K H a) pl'.isList (fun w hw => mq_eqAt I rx ra pa hu r rl pd w (by simpa using hw)) ⟨.bl _, H, I, rfl, ?_⟩
    rw [show its.toArray.any (mq X.K H a) = its.any (mq X.K H a) by simp, any_mq I r rl pd]
    exact q
  · obtain ⟨its, r, pl', hz⟩ := I.tuple hq
    refine SeqAt.notIn_tupleAt (mq X.K H a) pl' (fun w hw => mq_eqAt I rx ra pa hu r rl pd w (by simpa using hw)) ⟨.bl _, H, I, rfl, ?_⟩
    rw [show its.toArray.any (mq X.K H a) = its.any (mq X.K H a) by simp, any_mq I r rl pd]
    exact q
def inSqD (neg : Bool) (a y : D) : Option D := (seqO y).bind fun ds => if inOk a ds = true then some (.bl (xor neg (ds.any fun d => eqD d a))) else none
theorem s_inSq (neg : Bool) : OpS X (rInG X.K neg) (inSqD neg) := fun G H x y a b d Q sm ra rb e q => by
  unfold inSqD at e
  obtain ⟨ds, h1, e⟩ := Option.bind_eq_some_iff.mp e
  split at e
  · rename_i ok
    cases e
    obtain ⟨p, vs, rfl, h2, rl⟩ := rb.asQ sm h1
    exact ⟨p, vs, a, ds, rfl, h2, ra.full sm (pl_nodic (inOk_of ok).1), rl.mono sm, ok, q _ G H (Grow.refl sm) (.bl _)⟩
  · cases e
end
end DL

set_option Elab.async false
set_option linter.all false
set_option maxRecDepth 100000
set_option autoImplicit false
set_option maxHeartbeats 1000000
namespace DL
open PySem PySem.Spec PyProof.Rows L2
variable [PWd]
variable {K : PySem.W.Frag} {G G' G'' H H' H'' : Hp} {Z : Addr → Prop} {ι ι' ι'' : List Addr} {M M' : Store} {Γ Γ' : Env} {σ σ' : L2.St}
section
variable {X : Cx} {N : List Str} {sc : Scope} {Wx : WX} {k : Nat} {a b c e o : Expr} {es : List Expr} {f g h' : EF} {t u : TF} {af : AF} {pos p apos cpos p2 : Pos} {x name : Str} {id T : String}
/-! ### methods that change nothing -/
def MtD (X : Cx) (r : V → List V → Hp → VK → Prop) (h : D → List D → Option D) : Prop := ∀ (G H : Hp) (x : V) (a : D) (xs : List V) (as : List D) (d : D) (Q : VK), Same G H → RB X.K G H x a → RBs X.K G H xs as → h a as = some d →
  (∀ v G' H', Grow G H G' H' → Rep X.K G' v d → Q v H') → r x xs H Q
def tyOk (T : String) : D → Bool
  | .str _ => T == "str"
  | .lst _ => T == "list"
  | .rol _ => T == "list"
  | _ => false
theorem tyV_of (sm : Same G H) {v : V} {d : D} (r : RB K G H v d) (h : tyOk T d = true) : tyV K T v H := by
  cases d with
  | str z => rw [r.str]; exact eq_of_beq h
  | lst xs =>
    obtain ⟨l, vs, rfl, h1, r1⟩ := r.asL sm
    exact .inl ⟨eq_of_beq h, vs, SqL.of h1⟩
  | rol xs =>
    obtain ⟨l, vs, rfl, h1, r1⟩ := r.asR sm
    exact .inl ⟨eq_of_beq h, vs, h1⟩
  | _ => cases h
def eM0 (T : String) (h : D → List D → Option D) (f : EF) : EF := fun Γ M => bnd (f Γ M) fun w M1 => ((rd M1 w).bind fun x => if tyOk T x = true then h x [] else none).map fun d => .ok (.d d) M1
def eM (T : String) (h : D → List D → Option D) (f : EF) (g : AF) : EF := fun Γ M => bnd (f Γ M) fun w M1 => (rd M1 w).bind fun y => if tyOk T y = true then bnd (g Γ M1) fun ws M2 => ((rd M2 w).bind fun x => (rds M2 ws).bind fun ds => h x ds).map fun d => .ok (.d d) M2 else none
theorem de_m0 {r : V → List V → Hp → VK → Prop} {h : D → List D → Option D} (hs : MtD X r h) (ho : DE X Wx Z o f) (pa : PlainAttrs T) (slot : Slot T name id) (hty : typeOf (.builtin id) = pure (.type "method_descriptor")) (hm : MtR X id r)
    (hbase : attributeBase o name X.env (eval o X.env) = eval o X.env := by rfl) (hline : (apos.endLine == cpos.line) = true := by rfl) : DE X Wx Z (.Call (.Attribute o name apos) [] [] cpos) (eM0 T h f) := by
  obtain ⟨ta, pa', oa⟩ := ho
  refine ⟨_, pe_bm0 pa slot hty hm pa' hbase hline, fun ι M Γ σ G H out Q s e q => ?_⟩
  refine oa.then s e (EPost.x q) fun w M1 e1 ι1 G1 H1 v s1 x1 r1 => ?_
  obtain ⟨d, h1, rfl⟩ := Option.map_eq_some_iff.mp e1
  obtain ⟨da, h2, h1⟩ := Option.bind_eq_some_iff.mp h1
  split at h1
  · rename_i ty
    have rb := s1.cr.rb r1 h2
    exact ⟨tyV_of s1.cr.sub rb ty, hs G1 H1 v da [] [] d Q s1.cr.sub rb .nil h1 fun v' G' H' gw rv => q ι1 G' H' v' (s1.grow gw) (x1.trans (s1.cr.growE gw)) (.d rv)⟩
  · cases h1
theorem de_m {r : V → List V → Hp → VK → Prop} {h : D → List D → Option D} (hs : MtD X r h) (ho : DE X Wx Z o f) (ha : DA X Wx Z (e :: es) af) (pa : PlainAttrs T) (slot : Slot T name id) (hty : typeOf (.builtin id) = pure (.type "method_descriptor")) (hm : MtR X id r)
    (hbase : attributeBase o name X.env (eval o X.env) = eval o X.env := by rfl)
    (hfew : ((backTo cpos (starEach (e :: es) X.env)).all (fun x => !x.1) && (backToKw cpos (keywordEach [] X.env)).all (fun x => x.1.isSome)
      && decide ((e :: es).length + ([] : List Keyword).length + (if ([] : List Keyword).isEmpty then 0 else 1) < 30)) = true := by rfl)
    (hline : (apos.endLine == cpos.line) = true := by rfl) (hst : starEach (e :: es) X.env = (false, eval e X.env) :: starEach es X.env := by rfl) (hplain : (backTo cpos (starEach es X.env)).any (·.1) = false := by rfl) :
    DE X Wx Z (.Call (.Attribute o name apos) (e :: es) [] cpos) (eM T h f af) := by
  obtain ⟨ta, pa', oa⟩ := ho
  obtain ⟨⟨tb, pb, ob⟩, len⟩ := ha
  refine ⟨_, pe_bm pa slot hty hm pa' pb hbase hfew hline hst hplain, fun ι M Γ σ G H out Q s e q => ?_⟩
  refine oa.then s e (EPost.x q) fun w M1 e1 ι1 G1 H1 v s1 x1 r1 => ?_
  obtain ⟨y, h2, e1⟩ := Option.bind_eq_some_iff.mp e1
  split at e1
  · rename_i ty
    refine ⟨tyV_of s1.cr.sub (s1.cr.rb r1 h2) ty, ?_⟩
    refine ob.then s1 e1 (EPost.x (q.ext x1)) fun ws M2 e2 _ ι2 G2 H2 vs s2 x2 r2 => ?_
    obtain ⟨d, h3, rfl⟩ := Option.map_eq_some_iff.mp e2
    obtain ⟨da, h4, h3⟩ := Option.bind_eq_some_iff.mp h3
    obtain ⟨ds, h5, h3⟩ := Option.bind_eq_some_iff.mp h3
    exact hs G2 H2 v da vs ds d Q s2.cr.sub (s2.cr.rb (x2.rw r1) h4) (rds_rbs s2.cr r2 h5) h3 fun v' G' H' gw rv => q ι2 G' H' v' (s2.grow gw) ((x1.trans x2).trans (s2.cr.growE gw)) (.d rv)
  · cases e1
/-- of a text alone -/
def txt0 (C : Str → Bool) (g : Str → D) : D → List D → Option D
  | .str a, [] => if C a = true then some (g a) else none
  | _, _ => none
theorem m_txt0 {C : Str → Prop} {Cb : Str → Bool} {g : Str → V} {gd : Str → D} (hc : ∀ a, Cb a = true → C a) (hg : ∀ a G, Rep X.K G (g a) (gd a)) : MtD X (fun x xs H Q => ∃ a, x = V.str a ∧ xs = [] ∧ C a ∧ Q (g a) H) (txt0 Cb gd) := fun G H x a xs as d Q sm ra rs e q => by
  unfold txt0 at e
  split at e
  · split at e
    · rename_i h1
      cases e
      cases rs
      rw [ra.str]
      exact ⟨_, rfl, rfl, hc _ h1, q _ G H (Grow.refl sm) (hg _ G)⟩
    · cases e
  · cases e
def upOk (a : Str) : Bool := decide (a.length ≤ 5592405)
def upperD : D → List D → Option D := txt0 upOk fun a => .str (Txt.upper a)
def lowerD : D → List D → Option D := txt0 upOk fun a => .str (Txt.lower a)
theorem de_upper (ho : DE X Wx Z o f) (hbase : attributeBase o "upper" X.env (eval o X.env) = eval o X.env := by rfl) (hline : (apos.endLine == cpos.line) = true := by rfl) : DE X Wx Z (.Call (.Attribute o "upper" apos) [] [] cpos) (eM0 "str" upperD f) :=
  de_m0 (m_txt0 (fun a h => of_decide_eq_true h) fun a G => .str _) ho PySem.F.plainAttrs_str PySem.F.slot_str_upper PySem.F.type_str_upper mt_upper hbase hline
theorem de_lower (ho : DE X Wx Z o f) (hbase : attributeBase o "lower" X.env (eval o X.env) = eval o X.env := by rfl) (hline : (apos.endLine == cpos.line) = true := by rfl) : DE X Wx Z (.Call (.Attribute o "lower" apos) [] [] cpos) (eM0 "str" lowerD f) :=
  de_m0 (m_txt0 (fun a h => of_decide_eq_true h) fun a G => .str _) ho PySem.F.plainAttrs_str PySem.F.slot_str_lower PySem.F.type_str_lower mt_lower hbase hline
/-- the texts of a list -/
def strsO : List D → Option (List Str)
  | [] => some []
  | .str i :: r => (strsO r).map (i :: ·)
  | _ :: _ => none
theorem RepL.strs {ds : List D} : ∀ {vs : List V} {is : List Str}, RepL K G vs ds → strsO ds = some is → vs = is.map V.str := by
  induction ds with
  | nil => intro vs is r e; cases r; cases e; rfl
  | cons d ds ih =>
    intro vs is r e
    cases r with
    | cons a t =>
      cases d with
      | str i =>
        obtain ⟨l, h, rfl⟩ := Option.map_eq_some_iff.mp (show (strsO ds).map (i :: ·) = some is from e)
        cases a
        rw [ih t h]; rfl
      | _ => cases e
theorem strsO_map {ds : List D} : ∀ {is : List Str}, strsO ds = some is → ds = is.map D.str := by
  induction ds with
  | nil => intro is e; cases e; rfl
  | cons d ds ih =>
    intro is e
    cases d with
    | str i =>
      obtain ⟨l, h, rfl⟩ := Option.map_eq_some_iff.mp (show (strsO ds).map (i :: ·) = some is from e)
      rw [ih h]; rfl
    | _ => cases e
theorem repL_strs {is : List Str} : RepL K G (is.map V.str) (is.map D.str) := by
  induction is with
  | nil => exact .nil
  | cons i is ih => exact .cons (.str i) ih
def joinD : D → List D → Option D
  | .str a, [x] => (seqO x).bind fun ds => (strsO ds).bind fun ys => if (ys.map (·.length)).sum + ys.length * a.length ≤ 16777216 then some (.str (Txt.join a ys)) else none
  | _, _ => none
theorem m_join : MtD X (fun x xs H Q => ∃ a p, ∃ ys : List Str, x = V.str a ∧ xs = [V.ref p] ∧ (SqL X.K H p (ys.map V.str) ∨ SqT X.K H p (ys.map V.str)) ∧
    (ys.map (·.length)).sum + ys.length * a.length ≤ 16777216 ∧ Q (.str (Txt.join a ys)) H) joinD := fun G H x a xs as d Q sm ra rs e q => by
  unfold joinD at e
  split at e
  · obtain ⟨ds, h1, e⟩ := Option.bind_eq_some_iff.mp e
    obtain ⟨ys, h2, e⟩ := Option.bind_eq_some_iff.mp e
    split at e
    · rename_i hz
      cases e
      obtain ⟨v, rfl, r⟩ := rb1 rs
      obtain ⟨p, vs, rfl, h3, rl⟩ := r.asQ sm h1
      have e1 := rl.strs h2
      subst e1
      rw [ra.str]
      exact ⟨_, p, ys, rfl, rfl, h3, hz, q _ G H (Grow.refl sm) (.str _)⟩
    · cases e
  · cases e
theorem de_join (ho : DE X Wx Z o f) (ha : DA X Wx Z [e] af) (hbase : attributeBase o "join" X.env (eval o X.env) = eval o X.env := by rfl)
    (hfew : ((backTo cpos (starEach [e] X.env)).all (fun x => !x.1) && (backToKw cpos (keywordEach [] X.env)).all (fun x => x.1.isSome)
      && decide (([e] : List Expr).length + ([] : List Keyword).length + (if ([] : List Keyword).isEmpty then 0 else 1) < 30)) = true := by rfl)
    (hline : (apos.endLine == cpos.line) = true := by rfl) (hst : starEach [e] X.env = (false, eval e X.env) :: starEach [] X.env := by rfl) (hplain : (backTo cpos (starEach [] X.env)).any (·.1) = false := by rfl) :
    DE X Wx Z (.Call (.Attribute o "join" apos) [e] [] cpos) (eM "str" joinD f af) :=
  de_m m_join ho ha PySem.F.plainAttrs_str PySem.F.slot_str_join PySem.F.type_str_join mt_join hbase hfew hline hst hplain

/-! ### methods that change their cell -/
def MtC (X : Cx) (r : V → List V → Hp → VK → Prop) (h : Cell → List D → Option (D × Cell)) : Prop := ∀ (G H : Hp) (a : Addr) (c c' : Cell) (xs : List V) (as : List D) (d : D) (Q : VK), Same G H → CellOk X.K G (H a) c → RepL X.K G xs as → h c as = some (d, c') →
  (∀ v o, CellOk X.K G (some o) c' → c' ≠ .dead → Rep X.K G v d → Q v (upd H a o)) → r (.ref a) xs H Q
def liveL : Cell → Bool
  | .lst _ => true
  | _ => false
def eMC0 (h : Cell → List D → Option (D × Cell)) (f : EF) : EF := fun Γ M => bnd (f Γ M) fun w M1 => match w with
  | .d _ => none
  | .r i => (M1[i]?).bind fun c => if liveL c = true then (h c []).map fun p => .ok (.d p.1) (M1.set i p.2) else none
def eMC (h : Cell → List D → Option (D × Cell)) (f : EF) (g : AF) : EF := fun Γ M => bnd (f Γ M) fun w M1 => match w with
  | .d _ => none
  | .r i => (M1[i]?).bind fun c0 => if liveL c0 = true then bnd (g Γ M1) fun ws M2 => (M2[i]?).bind fun c => (allD ws).bind fun ds => if liveL c = true then (h c ds).map fun p => .ok (.d p.1) (M2.set i p.2) else none else none
theorem liveL_of {c : Cell} (h : liveL c = true) : ∃ ds, c = .lst ds := by
  cases c with
  | lst ds => exact ⟨ds, rfl⟩
  | _ => cases h
theorem cell_tyV {a : Addr} {c : Cell} {o : Option HO} (ho : H a = o) (ok : CellOk K G o c) (h : liveL c = true) : tyV K "list" (.ref a) H := by
  obtain ⟨ds, rfl⟩ := liveL_of h
  cases ok with
  | lst r => exact .inl ⟨rfl, _, SqL.of ho⟩
theorem live_ne {i : Nat} {c : Cell} (h : M[i]? = some c) (hl : liveL c = true) : M[i]? ≠ some Cell.dead := fun z => by
  rw [h] at z
  cases z
  cases hl
theorem MtC.run {r : V → List V → Hp → VK → Prop} {h : Cell → List D → Option (D × Cell)} (hs : MtC X r h) (s : SR X.K Z ι M Γ σ G H) {i : Nat} {a : Addr} {c : Cell} {xs : List V} {as : List D} {out : Out W} {Q : VK} (hi : ι[i]? = some a) (hc : M[i]? = some c) (hl : liveL c = true) (rl : RepL X.K G xs as)
    (e : ((h c as).map fun p => Out.ok (W.d p.1) (M.set i p.2)) = some out) (q : EPost X Wx Z ι Γ σ G H Q out) : r (.ref a) xs H Q := by
  obtain ⟨⟨d, c'⟩, h1, rfl⟩ := Option.map_eq_some_iff.mp e
  refine hs G H a c c' xs as d Q s.cr.sub (s.cr.ct i a c hi hc) rl h1 fun v o ok nd rv => ?_
  have c2 := s.cr.write hi (live_ne hc hl) ok nd
  have x2 : Ext Z ι G H ι G (upd H a o) := ⟨⟨[], by simp⟩, Same.refl _, fun b hb => upd_ne fun z => s.cr.dj a (List.mem_of_getElem? hi) (by rw [← z]; exact hb)⟩
  exact q ι G _ v (s.at x2 c2) x2 (.d rv)
theorem de_mc0 {r : V → List V → Hp → VK → Prop} {h : Cell → List D → Option (D × Cell)} (hs : MtC X r h) (ho : DE X Wx Z o f) (slot : Slot "list" name id) (hty : typeOf (.builtin id) = pure (.type "method_descriptor")) (hm : MtM X id r)
    (hbase : attributeBase o name X.env (eval o X.env) = eval o X.env := by rfl) (hline : (apos.endLine == cpos.line) = true := by rfl) : DE X Wx Z (.Call (.Attribute o name apos) [] [] cpos) (eMC0 h f) := by
  obtain ⟨ta, pa', oa⟩ := ho
  refine ⟨_, pe_bm0 PySem.F.plainAttrs_list slot hty hm pa' hbase hline, fun ι M Γ σ G H out Q s e q => ?_⟩
  refine oa.then s e (EPost.x q) fun w M1 e1 ι1 G1 H1 v s1 x1 r1 => ?_
  cases w with
  | d _ => cases e1
  | r i =>
    obtain ⟨c, h2, e1⟩ := Option.bind_eq_some_iff.mp e1
    split at e1
    · rename_i hl
      cases r1 with
      | r hi => exact ⟨cell_tyV rfl (s1.cr.ct i _ c hi h2) hl, hs.run s1 hi h2 hl .nil e1 (q.ext x1)⟩
    · cases e1
theorem de_mc {r : V → List V → Hp → VK → Prop} {h : Cell → List D → Option (D × Cell)} (hs : MtC X r h) (ho : DE X Wx Z o f) (ha : DA X Wx Z (e :: es) af) (slot : Slot "list" name id) (hty : typeOf (.builtin id) = pure (.type "method_descriptor")) (hm : MtM X id r)
    (hbase : attributeBase o name X.env (eval o X.env) = eval o X.env := by rfl)
    (hfew : ((backTo cpos (starEach (e :: es) X.env)).all (fun x => !x.1) && (backToKw cpos (keywordEach [] X.env)).all (fun x => x.1.isSome)
      && decide ((e :: es).length + ([] : List Keyword).length + (if ([] : List Keyword).isEmpty then 0 else 1) < 30)) = true := by rfl)
    (hline : (apos.endLine == cpos.line) = true := by rfl) (hst : starEach (e :: es) X.env = (false, eval e X.env) :: starEach es X.env := by rfl) (hplain : (backTo cpos (starEach es X.env)).any (·.1) = false := by rfl) :
    DE X Wx Z (.Call (.Attribute o name apos) (e :: es) [] cpos) (eMC h f af) := by
  obtain ⟨ta, pa', oa⟩ := ho
  obtain ⟨⟨tb, pb, ob⟩, len⟩ := ha
  refine ⟨_, pe_bm PySem.F.plainAttrs_list slot hty hm pa' pb hbase hfew hline hst hplain, fun ι M Γ σ G H out Q s e q => ?_⟩
  refine oa.then s e (EPost.x q) fun w M1 e1 ι1 G1 H1 v s1 x1 r1 => ?_
  cases w with
  | d _ => cases e1
  | r i =>
    obtain ⟨c0, h2, e1⟩ := Option.bind_eq_some_iff.mp e1
    split at e1
    · rename_i hl
      cases r1 with
      | @r ad _ hi =>
        refine ⟨cell_tyV rfl (s1.cr.ct i _ c0 hi h2) hl, ?_⟩
        refine ob.then s1 e1 (EPost.x (q.ext x1)) fun ws M2 e2 _ ι2 G2 H2 vs s2 x2 r2 => ?_
        obtain ⟨c, h3, e2⟩ := Option.bind_eq_some_iff.mp e2
        obtain ⟨ds, h4, e2⟩ := Option.bind_eq_some_iff.mp e2
        split at e2
        · rename_i hl2
          have hi2 : ι2[i]? = some ad := by
            obtain ⟨l, rfl⟩ := x2.pre
            rw [List.getElem?_append_left (List.getElem?_eq_some_iff.mp hi).1]
            exact hi
          exact hs.run s2 hi2 h3 hl2 (allD_rep r2 h4) e2 ((q.ext x1).ext x2)
        · cases e2
    · cases e1
/-! ### append, pop, remove, insert, reverse -/
theorem cell_lst {a : Addr} {o : Option HO} {ds : List D} (ho : H a = o) (ok : CellOk K G o (.lst ds)) : ∃ vs, H a = some (.lst vs) ∧ RepL K G vs ds := by
  cases ok with
  | lst r => exact ⟨_, ho, r⟩
def appendC : Cell → List D → Option (D × Cell)
  | .lst ds, [x] => if ds.length < sizeLine then some (.non, .lst (ds ++ [x])) else none
  | _, _ => none
theorem c_append : MtC X rAppend appendC := fun G H a c c' xs as d Q sm ok rl e q => by
  unfold appendC at e
  split at e
  · split at e
    · rename_i hz
      cases e
      obtain ⟨vs, hv, r⟩ := cell_lst rfl ok
      cases rl with
      | cons r1 t =>
        cases t
        exact ⟨a, vs, _, rfl, rfl, hv, by rw [r.length]; exact hz, q _ _ (.lst (r.append (.cons r1 .nil))) (fun z => nomatch z) .non⟩
    · cases e
  · cases e
def popC : Cell → List D → Option (D × Cell)
  | .lst ds, [] => (ds[ds.length - 1]?).map fun x => (x, .lst ds.dropLast)
  | _, _ => none
theorem RepL.dropLast {vs : List V} {ds : List D} (r : RepL K G vs ds) : RepL K G vs.dropLast ds.dropLast := by
  have h := r.take (vs.length - 1)
  rw [List.dropLast_eq_take, List.dropLast_eq_take, ← r.length]
  exact h
theorem c_pop : MtC X rPop popC := fun G H a c c' xs as d Q sm ok rl e q => by
  unfold popC at e
  split at e
  · obtain ⟨x, h1, h2⟩ := Option.map_eq_some_iff.mp e
    cases h2
    obtain ⟨vs, hv, r⟩ := cell_lst rfl ok
    cases rl
    obtain ⟨y, h3, r3⟩ := r.get h1
    rw [← r.length] at h3
    exact ⟨a, vs, y, rfl, rfl, hv, h3, q _ _ (.lst r.dropLast) (fun z => nomatch z) r3⟩
  · cases e
theorem RepL.eraseIdx {vs : List V} {ds : List D} (r : RepL K G vs ds) (i : Nat) : RepL K G (vs.eraseIdx i) (ds.eraseIdx i) := by
  induction vs generalizing ds i with
  | nil => cases r; exact .nil
  | cons v vs ih => cases r with
    | cons x t => cases i with
      | zero => exact t
      | succ i => exact .cons x (ih t i)
def popAtC : Cell → List D → Option (D × Cell)
  | .lst ds, [.int i] => if small63 i = true then (seqIndex? i ds.length).bind fun j => (ds[j]?).map fun x => (x, .lst (ds.eraseIdx j)) else none
  | _, _ => none
theorem small63_of {i : Int} (h : small63 i = true) : -(2 ^ 63) ≤ i ∧ i < 2 ^ 63 := by
  unfold small63 at h
  rw [Bool.and_eq_true] at h
  exact ⟨of_decide_eq_true h.1, of_decide_eq_true h.2⟩
theorem c_popAt : MtC X rPopAt popAtC := fun G H a c c' xs as d Q sm ok rl e q => by
  unfold popAtC at e
  split at e
  · split at e
    · rename_i h63
      obtain ⟨j, h0, e⟩ := Option.bind_eq_some_iff.mp e
      obtain ⟨x, h1, h2⟩ := Option.map_eq_some_iff.mp e
      cases h2
      obtain ⟨vs, hv, r⟩ := cell_lst rfl ok
      cases rl with
      | cons r1 t =>
        cases t
        cases r1
        obtain ⟨y, h3, r3⟩ := r.get h1
        rw [← r.length] at h0
        obtain ⟨b1, b2⟩ := small63_of h63
        exact ⟨a, vs, _, j, y, rfl, rfl, hv, b1, b2, h0, h3, q _ _ (.lst (r.eraseIdx j)) (fun z => nomatch z) r3⟩
    · cases e
  · cases e
def reverseC : Cell → List D → Option (D × Cell)
  | .lst ds, [] => some (.non, .lst ds.reverse)
  | _, _ => none
theorem c_reverse : MtC X rReverse reverseC := fun G H a c c' xs as d Q sm ok rl e q => by
  unfold reverseC at e
  split at e
  · cases e
    obtain ⟨vs, hv, r⟩ := cell_lst rfl ok
    cases rl
    exact ⟨a, vs, rfl, rfl, hv, q _ _ (.lst r.reverse) (fun z => nomatch z) .non⟩
  · cases e
def extendC : Cell → List D → Option (D × Cell)
  | .lst ds, [.lst es] => if ds.length + es.length ≤ sizeLine then some (.non, .lst (ds ++ es)) else none
  | _, _ => none
theorem c_extend : MtC X rExtend extendC := fun G H a c c' xs as d Q sm ok rl e q => by
  unfold extendC at e
  split at e
  · split at e
    · rename_i hz
      cases e
      obtain ⟨vs, hv, r⟩ := cell_lst rfl ok
      cases rl with
      | cons r1 t =>
        cases t
        obtain ⟨b, us, rfl, hb, r2⟩ := RB.asL sm (.rep r1)
        exact ⟨a, b, vs, us, rfl, rfl, hv, hb, by rw [r.length, r2.length]; exact hz, q _ _ (.lst (r.append r2)) (fun z => nomatch z) .non⟩
    · cases e
  · cases e
/-- xs.remove(x), texts -/
def rRemS : V → List V → Hp → VK → Prop := fun x xs H Q => ∃ (l : Addr) (ns : List Str) (k : Str) (j : Nat), x = .ref l ∧ xs = [.str k] ∧ H l = some (.lst (ns.map V.str)) ∧ ns[j]? = some k ∧ (∀ m : Nat, m < j → ns[m]? ≠ some k) ∧ Q .non (upd H l (.lst ((ns.eraseIdx j).map V.str)))
def eqs (k : Str) (v : Value) : Bool := match v with
  | .str n _ => n.cps.toList == k.cps.toList
  | _ => false
theorem eqs_gives {k : Str} {t : Tok} : ∀ {us : List Value} {ns : List Str}, StrsAre us ns → ∀ y ∈ us, MeetsSeq.EqGives y (.str k t) (eqs k y)
  | _, _, .nil => fun y hy => by cases hy
  | _, _, .cons n t' h => fun y hy => by
    rcases List.mem_cons.mp hy with e | e
    · rw [e]
      exact PySem.SeqRoads2.EqGives.str n k t' t
    · exact eqs_gives h y e
theorem strsAre_get : ∀ {us : List Value} {ns : List Str}, StrsAre us ns → ∀ (j : Nat) (n : Str), ns[j]? = some n → ∃ t, us[j]? = some (.str n t)
  | _, _, .nil => fun j n h => by simp at h
  | _, _, .cons n t h => fun j m e => by
    cases j with
    | zero => simp at e; subst e; exact ⟨t, rfl⟩
    | succ j => simp at e; obtain ⟨t, q⟩ := strsAre_get h j m e; exact ⟨t, by simpa using q⟩
theorem str_eq_of {a b : Str} (h : a.cps.toList = b.cps.toList) : a = b := by
  cases a; cases b
  congr
  exact Array.toList_inj.mp h
theorem mt_removeS : MtM X "list.remove" rRemS := by
  intro pins s σ H x xs v us Q I rx rxs h
  obtain ⟨l, ns, k, j, rfl, rfl, hH, hj, hno, q⟩ := h
  cases rx
  obtain ⟨u, rfl, ru⟩ := rxs.one
  obtain ⟨t, rfl⟩ := ru
  obtain ⟨z, its, n, r, hl, e⟩ := I.lstM hH
  have hi := strs_of_vals r
  rw [List.length_map] at hl z
  have hjn : j < ns.length := (List.getElem?_eq_some_iff.mp hj).1
  have hjl : j < its.toArray.size := by rw [List.size_toArray]; omega
  refine call_meets PySem.F.slot_list_remove ⟨_, e, rfl⟩ PySem.F.entry_list_remove (PySem.F.args_list_remove_2 _ _)
    (MeetsSeq.list_remove l its.toArray n (.str k t) (eqs k) (fun y hy => eqs_gives hi y (by simpa using hy)) j hjl ?_ ?_ (by rw [List.size_toArray]; omega)) ⟨e, ?_⟩
  · obtain ⟨tj, hjt⟩ := strsAre_get hi j k hj
    obtain ⟨h1, h2⟩ := List.getElem?_eq_some_iff.mp hjt
    have e1 : its.toArray[j] = .str k tj := by simpa using h2
    rw [e1]
    exact beq_self_eq_true _
  · intro m hm hmj
    have hmn : m < ns.length := by omega
    obtain ⟨tm, hmt⟩ := strsAre_get hi m _ (List.getElem?_eq_getElem hmn)
    obtain ⟨h1, h2⟩ := List.getElem?_eq_some_iff.mp hmt
    have e1 : its.toArray[m] = .str ns[m] tm := by simpa using h2
    rw [e1]
    refine beq_eq_false_iff_ne.mpr fun e2 => hno m hmj ?_
    rw [List.getElem?_eq_getElem hmn, str_eq_of e2]
  · have rr := r.eraseIdx j
    have em : ∀ (l : List Str) (j : Nat), (l.map V.str).eraseIdx j = (l.eraseIdx j).map V.str := by
      intro l
      induction l with
      | nil => intro j; simp
      | cons a l ih => intro j; cases j with
        | zero => rfl
        | succ j => simp [ih]
    rw [em] at rr
    refine ⟨.non, _, I.lset (its' := its.eraseIdx j) (t' := s.toks) hH e ?_ rr ?_, rfl, q⟩
    · show its.toArray.eraseIdxIfInBounds j = (its.eraseIdx j).toArray
      rw [List.eraseIdxIfInBounds_toArray]
    · have z2 := len_erase ns j
      rw [List.length_map]
      omega
def firstAt (k : Str) : List Str → Option Nat
  | [] => none
  | a :: r => if a = k then some 0 else (firstAt k r).map (· + 1)
theorem firstAt_spec {k : Str} : ∀ {ns : List Str} {j : Nat}, firstAt k ns = some j → ns[j]? = some k ∧ ∀ m : Nat, m < j → ns[m]? ≠ some k
  | [], j, h => nomatch h
  | a :: r, j, h => by
    unfold firstAt at h
    split at h
    · rename_i e
      cases h
      exact ⟨by rw [e]; rfl, fun m hm => absurd hm (Nat.not_lt_zero _)⟩
    · rename_i ne
      obtain ⟨i, h1, rfl⟩ := Option.map_eq_some_iff.mp h
      obtain ⟨h2, h3⟩ := firstAt_spec h1
      refine ⟨by simpa using h2, fun m hm => ?_⟩
      cases m with
      | zero => simpa using ne
      | succ m => simpa using h3 m (by omega)
def removeSC : Cell → List D → Option (D × Cell)
  | .lst ds, [.str k] => (strsO ds).bind fun ns => (firstAt k ns).map fun j => (.non, .lst ((ns.eraseIdx j).map .str))
  | _, _ => none
theorem c_removeS : MtC X rRemS removeSC := fun G H a c c' xs as d Q sm ok rl e q => by
  unfold removeSC at e
  split at e
  · obtain ⟨ns, h0, e⟩ := Option.bind_eq_some_iff.mp e
    obtain ⟨j, h1, h2⟩ := Option.map_eq_some_iff.mp e
    cases h2
    obtain ⟨vs, hv, r⟩ := cell_lst rfl ok
    have e1 := r.strs h0
    subst e1
    cases rl with
    | cons r1 t =>
      cases t
      cases r1
      obtain ⟨h3, h4⟩ := firstAt_spec h1
      exact ⟨a, ns, _, j, rfl, rfl, hv, h3, h4, q _ _ (.lst repL_strs) (fun z => nomatch z) .non⟩
  · cases e
end
end DL

set_option Elab.async false
set_option linter.all false
set_option maxRecDepth 100000
set_option autoImplicit false
set_option maxHeartbeats 1000000
namespace DL
open PySem PySem.Spec PyProof.Rows L2
variable [PWd]
variable {K : PySem.W.Frag} {G G' G'' H H' H'' : Hp} {Z : Addr → Prop} {ι ι' ι'' : List Addr} {M M' : Store} {Γ Γ' : Env} {σ σ' : L2.St}
/-! ### an object that is being made: hidden -/
def Zp (Z : Addr → Prop) (p : Addr) : Addr → Prop := fun a => Z a ∨ a = p
theorem CRel.hide1 (c : CRel K Z ι M G H) {p : Addr} (hp : H p = none) (o : HO) : CRel K (Zp Z p) ι M G (upd H p o) := by
  have gp : G p = none := Same.free c.sub hp
  refine ⟨c.ln, c.nd, fun a h z => ?_, fun b u h => ?_, fun a h => ?_, fun a h => ?_, fun a h => ?_, c.cf, fun i a y h1 h2 => ?_, c.df⟩
  · rcases z with z | rfl
    · exact c.dj a h z
    · exact c.ch a h hp
  · rw [upd_ne (ne_of_none h gp)]; exact c.sub _ _ h
  · rcases h with h | rfl
    · exact c.zf a h
    · exact gp
  · rcases h with h | rfl
    · rw [upd_ne (fun z => c.zh a h (by rw [z]; exact hp))]; exact c.zh a h
    · rw [upd_same]; exact fun z => nomatch z
  · rw [upd_ne (fun z => c.ch a h (by rw [z]; exact hp))]; exact c.ch a h
  · have q := c.ct i a y h1 h2
    rw [upd_ne (fun z => c.ch a (List.mem_of_getElem? h1) (by rw [z]; exact hp))]; exact q
theorem CRel.put1 {p : Addr} (c : CRel K (Zp Z p) ι M G H) (o : HO) : CRel K (Zp Z p) ι M G (upd H p o) := by
  have gp : G p = none := c.zf p (.inr rfl)
  have ni : ∀ a ∈ ι, a ≠ p := fun a h z => c.dj a h (.inr z)
  refine ⟨c.ln, c.nd, c.dj, fun b u h => ?_, c.zf, fun a h => ?_, fun a h => ?_, c.cf, fun i a y h1 h2 => ?_, c.df⟩
  · rw [upd_ne (ne_of_none h gp)]; exact c.sub _ _ h
  · by_cases e : a = p
    · rw [e, upd_same]; exact fun z => nomatch z
    · rw [upd_ne e]; exact c.zh a h
  · rw [upd_ne (ni a h)]; exact c.ch a h
  · rw [upd_ne (ni a (List.mem_of_getElem? h1))]; exact c.ct i a y h1 h2
/-- made: it stands still from now on -/
theorem CRel.show1 {p : Addr} (c : CRel K (Zp Z p) ι M G H) (nz : ¬ Z p) {o : HO} (ho : H p = some o) : CRel K Z ι M (upd G p o) H ∧ Same G (upd G p o) := by
  have gp : G p = none := c.zf p (.inr rfl)
  have ni : ∀ a ∈ ι, a ≠ p := fun a h z => c.dj a h (.inr z)
  have sm : Same G (upd G p o) := fun b u h => by rw [upd_ne (ne_of_none h gp)]; exact h
  refine ⟨⟨c.ln, c.nd, fun a h z => c.dj a h (.inl z), fun b u h => ?_, fun a h => ?_, fun a h => c.zh a (.inl h), c.ch, fun i a h1 h2 => ?_, fun i a y h1 h2 => (c.ct i a y h1 h2).mono sm, fun i a h1 h2 => ?_⟩, sm⟩
  · by_cases e : b = p
    · rw [e, upd_same] at h; cases h; rw [e]; exact ho
    · rw [upd_ne e] at h; exact c.sub _ _ h
  · rw [upd_ne (fun z => nz (by rw [← z]; exact h))]; exact c.zf a (.inl h)
  · rw [upd_ne (ni a (List.mem_of_getElem? h1))]; exact c.cf i a h1 h2
  · rw [upd_ne (ni a (List.mem_of_getElem? h1))]; exact c.df i a h1 h2
/-- .. or is a cell -/
theorem CRel.cell1 {p : Addr} (c : CRel K (Zp Z p) ι M G H) (nz : ¬ Z p) {o : HO} {x : Cell} (ho : H p = some o) (hx : CellOk K G (some o) x) (hxd : x ≠ .dead) : CRel K Z (ι ++ [p]) (M ++ [x]) G H := by
  have gp : G p = none := c.zf p (.inr rfl)
  have ni : ∀ a ∈ ι, a ≠ p := fun a h z => c.dj a h (.inr z)
  have cas : ∀ {i a}, (ι ++ [p])[i]? = some a → (ι[i]? = some a ∧ i < ι.length) ∨ (i = ι.length ∧ a = p) := fun {i a} h => by
    by_cases hi : i < ι.length
    · rw [List.getElem?_append_left hi] at h; exact .inl ⟨h, hi⟩
    · rw [List.getElem?_append_right (by omega)] at h
      cases q : i - ι.length with
      | zero => rw [q] at h; exact .inr ⟨by omega, by simpa using h.symm⟩
      | succ n => rw [q] at h; simp at h
  refine ⟨by simp [c.ln], ?_, fun a h => ?_, c.sub, fun a h => c.zf a (.inl h), fun a h => c.zh a (.inl h), fun a h => ?_, fun i a h1 h2 => ?_, fun i a y h1 h2 => ?_, fun i a h1 h2 => ?_⟩
  · rw [List.nodup_append]
    exact ⟨c.nd, by simp, fun a h b hb => by rw [List.mem_singleton.mp hb]; exact ni a h⟩
  · rcases List.mem_append.mp h with h | h
    · exact fun z => c.dj a h (.inl z)
    · rw [List.mem_singleton.mp h]; exact nz
  · rcases List.mem_append.mp h with h | h
    · exact c.ch a h
    · rw [List.mem_singleton.mp h, ho]; exact fun z => nomatch z
  · rcases cas h1 with ⟨h, hi⟩ | ⟨_, rfl⟩
    · rw [List.getElem?_append_left (by rw [← c.ln]; exact hi)] at h2; exact c.cf i a h h2
    · exact gp
  · rcases cas h1 with ⟨h, hi⟩ | ⟨rfl, rfl⟩
    · rw [List.getElem?_append_left (by rw [← c.ln]; exact hi)] at h2; exact c.ct i a y h h2
    · rw [c.ln] at h2
      have e2 : x = y := by simpa using h2
      rw [← e2, ho]; exact hx
  · rcases cas h1 with ⟨h, hi⟩ | ⟨rfl, rfl⟩
    · rw [List.getElem?_append_left (by rw [← c.ln]; exact hi)] at h2; exact c.df i a h h2
    · rw [c.ln] at h2
      exact absurd (by simpa using h2) hxd
theorem Ext.zp {p : Addr} (x : Ext (Zp Z p) ι G H ι' G' H') : Ext Z ι G H ι' G' H' := ⟨x.pre, x.sm, fun a h => x.zs a (.inl h)⟩
/-! ### the slots of a block -/
def wipeG (Γ : Env) : List Nat → Env
  | [] => Γ
  | v :: vs => (wipeG Γ vs).set v none
theorem SR.wipe (s : SR K Z ι M Γ σ G H) : ∀ vs : List Nat, SR K Z ι M (wipeG Γ vs) (L2.wipe σ vs) G H
  | [] => s
  | v :: vs => (SR.wipe s vs).unset v
theorem wipe_same {σ σ' : L2.St} (hl : σ.length = σ'.length) : ∀ {vs : List Nat}, (∀ j, j ∉ vs → σ'[j]? = σ[j]?) → L2.wipe σ' vs = L2.wipe σ vs := by
  intro vs h
  have ins : ∀ (τ : L2.St) (ws : List Nat) (j : Nat), j ∈ ws → j < τ.length → (L2.wipe τ ws)[j]? = some none := by
    intro τ ws
    induction ws with
    | nil => intro j hj; cases hj
    | cons w ws ih =>
      intro j hj hlt
      unfold L2.wipe
      by_cases e : w = j
      · rw [e, List.getElem?_set_self (by rw [L2.wipe_length]; exact hlt)]
      · rw [List.getElem?_set_ne e]
        rcases List.mem_cons.mp hj with z | z
        · exact absurd z.symm e
        · exact ih j z hlt
  refine List.ext_getElem? fun j => ?_
  by_cases hj : j ∈ vs
  · by_cases hlt : j < σ.length
    · rw [ins σ' vs j hj (by omega), ins σ vs j hj hlt]
    · rw [List.getElem?_eq_none (by rw [L2.wipe_length]; omega), List.getElem?_eq_none (by rw [L2.wipe_length]; omega)]
  · rw [L2.wipe_out hj, L2.wipe_out hj, h j hj]
theorem wipe_wipe {σ : L2.St} {vs : List Nat} : L2.wipe (L2.wipe σ vs) vs = L2.wipe σ vs := wipe_same (by rw [L2.wipe_length]) fun j hj => L2.wipe_out hj
/-! ### a comprehension -/
abbrev WF : WX := fun _ _ _ _ => False
def lcF (ow : List Nat) (g : GF) (tt : TF) (fe : EF) (Γ : Env) : List D → Store → Option (List D × Store)
  | [], M => some ([], M)
  | d :: r, M => (g d (wipeG Γ ow)).bind fun Γ1 => match tt Γ1 M with
    | some (.ok true M1) => (match fe Γ1 M1 with
      | some (.ok (.d y) M2) => (lcF ow g tt fe Γ r M2).map fun p => (y :: p.1, p.2)
      | _ => none)
    | some (.ok false M1) => lcF ow g tt fe Γ r M1
    | _ => none
def eLc (ow : List Nat) (i : IF) (g : GF) (tt : TF) (fe : EF) : EF := fun Γ M => bnd (i Γ M) fun ds M1 => (lcF ow g tt fe Γ ds M1).bind fun p => if p.1.length ≤ sizeLine then some (.ok (.d (.lst p.1)) p.2) else none
def eLcC (ow : List Nat) (i : IF) (g : GF) (tt : TF) (fe : EF) : EF := fun Γ M => bnd (i Γ M) fun ds M1 => (lcF ow g tt fe Γ ds M1).bind fun p => if p.1.length ≤ sizeLine then some (.ok (.r p.2.length) (p.2 ++ [.lst p.1])) else none
/-- the tests of a clause -/
structure DTs (X : Cx) (Wx : WX) (Z : Addr → Prop) (ifs : List Expr) (f : TF) : Prop where
  ex : ∃ t, PTs X ifs t ∧ TOk X Wx Z t f
def tYesF : TF := fun _ M => some (.ok true M)
section
variable {P : Program} {w : World} {mg : Str → Option Value} {base : Heap}
variable {X : Cx} {N : List Str} {sc : Scope} {Wx : WX} {k : Nat} {e tg iter elt c : Expr} {ifs : List Expr} {pos : Pos} {g : GF} {f : EF} {i : IF} {tt : TF} {fe : EF} {scope : Scope} {own : List (Str × Nat)} {ts : List Nat}
theorem dts_nil : DTs X Wx Z [] tYesF := ⟨_, pts_nil, fun ι M Γ σ G H out Q s e q => by
  cases e
  exact q ι G H s Ext.refl⟩
theorem dts_one {t : TF} (h : DT X Wx Z c t) : DTs X Wx Z [c] t := by
  obtain ⟨tc, pc, oc⟩ := h
  exact ⟨tc, pts_one pc, oc⟩
theorem Ctx.blk (C : Ctx P w K mg base X N sc Wx k) {s : Shared} {H : Hp} {Ca : Addr} {cl : List (Str × Addr)} {fp : List Addr} :
    Ctx P w K mg base (X.blk s H scope (compEnvC scope cl Ca X.env) fp) N (relS scope sc) WF k :=
  ⟨C.hP, C.hw, C.hK, C.hmg, C.hbs, C.hpP, C.hpw, C.hN, C.nd, by show relS scope X.env.scope = _; rw [C.hs], C.calm, fun u s' h => by obtain ⟨_, _, _, _, _, _, _, _, _, _, _, _, _, _, _, _, z⟩ := h; exact z.elim, C.room, C.gd⟩
theorem Fx.blk {s : Shared} {H : Hp} {Ca : Addr} {cl : List (Str × Addr)} {fp : List Addr} : Fx (X.blk s H scope (compEnvC scope cl Ca X.env) fp) scope :=
  ⟨fun x h => by show (scope.names.lookup x == some .cell) = true; rw [h]; rfl⟩
/-! ### one term for all blocks -/
def uniE (X : Cx) (scope : Scope) (e : Expr) : TE := fun σ H Q => ∀ (s : Shared) (H0 : Hp) (Ca : Addr) (cl : List (Str × Addr)) (fp : List Addr), ∃ t, PE (X.blk s H0 scope (compEnvC scope cl Ca X.env) fp) e t ∧ t σ H Q
def uniT (X : Cx) (scope : Scope) (ifs : List Expr) : TT := fun σ H Q => ∀ (s : Shared) (H0 : Hp) (Ca : Addr) (cl : List (Str × Addr)) (fp : List Addr), ∃ t, PTs (X.blk s H0 scope (compEnvC scope cl Ca X.env) fp) ifs t ∧ t σ H Q
def uniG (X : Cx) (scope : Scope) (tg : Expr) : TG := fun v σ H Q => ∀ (s : Shared) (H0 : Hp) (Ca : Addr) (cl : List (Str × Addr)) (fp : List Addr), ∃ t, PG (X.blk s H0 scope (compEnvC scope cl Ca X.env) fp) tg t ∧ t v σ H Q
theorem pe_uni (s : Shared) (H0 : Hp) (Ca : Addr) (cl : List (Str × Addr)) (fp : List Addr) : PE (X.blk s H0 scope (compEnvC scope cl Ca X.env) fp) e (uniE X scope e) := ⟨fun pins s1 σ H Q I h => by
  obtain ⟨t, p, q⟩ := h s H0 Ca cl fp
  exact p.run pins s1 σ H Q I q⟩
theorem pts_uni (s : Shared) (H0 : Hp) (Ca : Addr) (cl : List (Str × Addr)) (fp : List Addr) : PTs (X.blk s H0 scope (compEnvC scope cl Ca X.env) fp) ifs (uniT X scope ifs) := ⟨fun pins s1 σ H Q I h => by
  obtain ⟨t, p, q⟩ := h s H0 Ca cl fp
  exact p.run pins s1 σ H Q I q⟩
theorem pg_uni (s : Shared) (H0 : Hp) (Ca : Addr) (cl : List (Str × Addr)) (fp : List Addr) : PG (X.blk s H0 scope (compEnvC scope cl Ca X.env) fp) tg (uniG X scope tg) := ⟨fun pins s1 σ H x u Q I r h => by
  obtain ⟨t, p, q⟩ := h s H0 Ca cl fp
  exact p.run pins s1 σ H x u Q I r q⟩
/-- what the printed proof gives of a block's part -/
abbrev BlkE (P : Program) (w : World) (K : PySem.W.Frag) (mg : Str → Option Value) (base : Heap) (N : List Str) (sc scope : Scope) (k : Nat) (φ : Cx → (Addr → Prop) → Prop) : Prop :=
  ∀ (X : Cx) (Z : Addr → Prop), Ctx P w K mg base X N (relS scope sc) WF k → Fx X scope → φ X Z
theorem uniE_ok (C : Ctx P w K mg base X N sc Wx k) (h : BlkE P w K mg base N sc scope k fun X Z => DE X WF Z e fe) (Z : Addr → Prop) : EOk X WF Z (uniE X scope e) fe := fun ι M Γ σ G H out Q s ev q s0 H0 Ca cl fp => by
  obtain ⟨t, p, o⟩ := h (X.blk s0 H0 scope (compEnvC scope cl Ca X.env) fp) Z C.blk Fx.blk
  exact ⟨t, p, o ι M Γ σ G H out Q s ev q⟩
theorem uniT_ok (C : Ctx P w K mg base X N sc Wx k) (h : BlkE P w K mg base N sc scope k fun X Z => DTs X WF Z ifs tt) (Z : Addr → Prop) : TOk X WF Z (uniT X scope ifs) tt := fun ι M Γ σ G H out Q s ev q s0 H0 Ca cl fp => by
  obtain ⟨t, p, o⟩ := h (X.blk s0 H0 scope (compEnvC scope cl Ca X.env) fp) Z C.blk Fx.blk
  exact ⟨t, p, o ι M Γ σ G H out Q s ev q⟩
theorem uniG_ok (C : Ctx P w K mg base X N sc Wx k) (h : BlkE P w K mg base N sc scope k fun X Z => DG X Z tg g ts) (Z : Addr → Prop) : ∀ d v ι M Γ σ G H Γ' (Q : L2.St → Hp → Prop), SR X.K Z ι M Γ σ G H → Rep X.K G v d → g d Γ = some Γ' → (∀ σ', SR X.K Z ι M Γ' σ' G H → Only ts σ σ' → Q σ' H) → uniG X scope tg v σ H Q := fun d v ι M Γ σ G H Γ' Q s r ev q s0 H0 Ca cl fp => by
  obtain ⟨t, p, o⟩ := h (X.blk s0 H0 scope (compEnvC scope cl Ca X.env) fp) Z C.blk Fx.blk
  exact ⟨t, p, o d v ι M Γ σ G H Γ' Q s r ev q⟩
theorem SR.len (s : SR K Z ι M Γ σ G H) (s' : SR K Z ι' M' Γ σ' G' H') : σ.length = σ'.length := s.lg.symm.trans s'.lg
/-- the block's turns -/
theorem lc_turns {ow : List Nat} {gt : TG} {ttt : TT} {te : TE} {J : It} {ds ys : List D} {M2 : Store} {Q : VK} (og : ∀ (Z : Addr → Prop) d v ι M Γ σ G H Γ' (Q : L2.St → Hp → Prop), SR X.K Z ι M Γ σ G H → Rep X.K G v d → g d Γ = some Γ' → (∀ σ', SR X.K Z ι M Γ' σ' G H → Only ow σ σ' → Q σ' H) → gt v σ H Q)
    (ot : ∀ Z, TOk X WF Z ttt tt) (oe : ∀ Z, EOk X WF Z te fe)
    (s1 : SR X.K Z ι M Γ σ G H) (jo : JOk X.K J G ds) (ev : lcF ow g tt fe Γ ds M = some (ys, M2)) (hz : ys.length ≤ sizeLine)
    (fin : ∀ Da ι2 G2 H2 vs, CRel X.K (Zp Z Da) ι2 M2 G2 H2 → Ext Z ι G H ι2 G2 H2 → ¬ Z Da → H2 Da = some (.lst vs) → RepL X.K G2 vs ys → Q (.ref Da) H2) :
    ∀ Da, H Da = none → ∃ W : Nat → Nat → Hp → Prop, (∃ m, W 0 m (upd H Da (.lst []))) ∧ ∀ i m H, W i m H →
  (J.stop i H ∧ Q (.ref Da) H) ∨ (J.go i H ∧ ∃ Nx : Hp → Prop, (∀ H', Nx H' → ∃ m', m' < m ∧ W (i + 1) m' H') ∧ ∀ x H', J.yld i H x H' → gt x (L2.wipe σ ow) H' fun σ2 H2 => L2.wipe σ2 ow = L2.wipe σ ow ∧ ttt σ2 H2 fun b H3 =>
    if b = true then te σ2 H3 fun y H4 => ∃ acc, H4 Da = some (.lst acc) ∧ acc.length < sizeLine ∧ Nx (upd H4 Da (.lst (acc ++ [y]))) else Nx H3) := by
  intro Da hD
  have nz : ¬ Z Da := fun z => s1.cr.zh Da z hD
  let St : Nat → Hp → Prop := fun i H' => ∃ ι' M' G' vs dn rest, CRel X.K (Zp Z Da) ι' M' G' H' ∧ Ext Z ι G H ι' G' H' ∧ H' Da = some (.lst vs) ∧ RepL X.K G' vs dn ∧ lcF ow g tt fe Γ (ds.drop i) M' = some (rest, M2) ∧ dn ++ rest = ys
  refine ⟨fun i m H' => m = ds.length - i ∧ i ≤ ds.length ∧ St i H', ⟨ds.length, by simp, Nat.zero_le _, ι, M, G, [], [], ys, s1.cr.hide1 hD _, ?_, upd_same, .nil, ev, rfl⟩, ?_⟩
  · exact ⟨⟨[], by simp⟩, Same.refl _, fun a h => upd_ne fun z => nz (by rw [← z]; exact h)⟩
  rintro i m H2 ⟨rfl, hi, ι2, M', G2, vs, dn, rest, c2, x2, hv, rl, e2, e3⟩
  have sl : SR X.K (Zp Z Da) ι2 M' Γ σ G2 H2 := ⟨c2, fun i w h => let ⟨v, a, b⟩ := s1.sl i w h; ⟨v, a, x2.rw b⟩, s1.lg⟩
  by_cases hlt : i < ds.length
  · refine .inr ⟨jo.go i G2 H2 x2.sm c2.sub hlt, St (i + 1), fun H' h => ⟨ds.length - (i + 1), by omega, rfl, hlt, h⟩, fun x H3 y => ?_⟩
    obtain ⟨G3, gw, r⟩ := jo.yl i G2 H2 x H3 ds[i] x2.sm c2.sub (List.getElem?_eq_getElem hlt) y
    have s3 := (sl.grow gw).wipe ow
    have x3 : Ext Z ι G H ι2 G3 H3 := x2.trans (c2.growE gw).zp
    rw [List.drop_eq_getElem_cons hlt] at e2
    unfold lcF at e2
    obtain ⟨Γ3, g3, e2⟩ := Option.bind_eq_some_iff.mp e2
    refine og _ ds[i] x ι2 M' _ _ G3 H3 Γ3 _ s3 r g3 fun σ3 s4 ch => ?_
    refine ⟨by rw [wipe_same ch.1.symm ch.2, wipe_wipe], ?_⟩
    have hv3 : H3 Da = some (.lst vs) := gw.h _ _ hv
    have rl3 := rl.mono gw.g
    cases z : tt Γ3 M' with
    | none => rw [z] at e2; cases e2
    | some o =>
      rw [z] at e2
      refine ot _ ι2 M' Γ3 σ3 G3 H3 o _ s4 z ?_
      cases o with
      | exc x M1 => cases e2
      | ok b M1 =>
        intro ι4 G4 H4 s5 x5
        have x4 : Ext Z ι G H ι4 G4 H4 := x3.trans x5.zp
        have hv4 : H4 Da = some (.lst vs) := (x5.zs Da (.inr rfl)).trans hv3
        cases b with
        | false =>
          refine iteF ?_
          exact ⟨ι4, M1, G4, vs, dn, rest, s5.cr, x4, hv4, rl3.mono x5.sm, e2, e3⟩
        | true =>
          refine iteT ?_
          dsimp only at e2
          cases z2 : fe Γ3 M1 with
          | none => rw [z2] at e2; cases e2
          | some o2 =>
            rw [z2] at e2
            refine oe _ ι4 M1 Γ3 σ3 G4 H4 o2 _ s5 z2 ?_
            cases o2 with
            | exc x M3 => cases e2
            | ok yw M3 =>
              intro ι6 G6 H6 yv s7 x7 r7
              cases yw with
              | r _ => cases e2
              | d yd =>
                cases r7 with
                | d r7 =>
                  obtain ⟨⟨rest2, M4⟩, e4, e5⟩ := Option.map_eq_some_iff.mp e2
                  cases e5
                  have hv6 : H6 Da = some (.lst vs) := (x7.zs Da (.inr rfl)).trans hv4
                  have rl6 := (rl3.mono x5.sm).mono x7.sm
                  have hle : vs.length < sizeLine := by
                    have h1 : ys.length = dn.length + (rest2.length + 1) := by rw [← e3]; simp
                    rw [rl.length]; omega
                  refine ⟨vs, hv6, hle, ι6, M3, G6, vs ++ [yv], dn ++ [yd], rest2, s7.cr.put1 _, ?_, upd_same, rl6.append (.cons r7 .nil), e4, by rw [← e3]; simp⟩
                  have x8 : Ext Z ι G H ι6 G6 H6 := x4.trans x7.zp
                  exact ⟨x8.pre, x8.sm, fun a h => (upd_ne fun z => nz (by rw [← z]; exact h)).trans (x8.zs a h)⟩
  · have ei : i = ds.length := by omega
    subst ei
    rw [List.drop_length] at e2
    unfold lcF at e2
    cases e2
    rw [List.append_nil] at e3
    subst e3
    exact .inl ⟨jo.st _ G2 H2 x2.sm c2.sub (Nat.le_refl _), fin Da ι2 G2 H2 vs c2 x2 nz hv rl⟩
theorem Only.sub {ts ow : List Nat} {σ σ' : L2.St} (h : Only ts σ σ') (s : ts.all (fun i => ow.contains i) = true) : Only ow σ σ' := ⟨h.1, fun j hj => h.2 j fun z => hj (by
  have := List.all_eq_true.mp s j z
  simpa using this)⟩
section
variable (C : Ctx P w K mg base X N sc Wx k) (hi : DI X Wx Z tg iter i) (own : List (Str × Nat))
  (hg : BlkE P w K mg base N sc scope k fun X Z => DG X Z tg g ts) (ht : BlkE P w K mg base N sc scope k fun X Z => DTs X WF Z ifs tt) (he : BlkE P w K mg base N sc scope k fun X Z => DE X WF Z elt fe)
include C hi hg ht he
theorem de_lc (ok : blkC N sc scope own = true := by decide +kernel) (hts : ts.all (fun i => (own.map (·.2)).contains i) = true := by decide) (hs : ∀ x, foldedSetIterable iter X.env x = pure x := by intro _; rfl) :
    DE X Wx Z (.ListComp elt [⟨tg, iter, ifs, 0⟩] scope pos) (eLc (own.map (·.2)) i g tt fe) := by
  obtain ⟨wi, pi, oi⟩ := hi
  have ok' : BlkOk X.N X.env.scope scope own := by rw [C.hN, C.hs]; exact blkOk_by ok
  refine ⟨_, pe_lc C.calm (C.hN ▸ C.nd) pi ok' (fun s H0 Ca cl fp => pg_uni s H0 Ca cl fp) (fun s H0 Ca cl fp => pts_uni s H0 Ca cl fp) (fun s H0 Ca cl fp => pe_uni s H0 Ca cl fp) hs, fun ι M Γ σ G H out Q s e q => ?_⟩
  rcases bnd_some e with ⟨ds, M1, e1, e2⟩ | ⟨x, M1, e1, rfl⟩
  · refine oi ι M Γ σ G H _ _ s e1 fun ι1 G1 H1 J s1 x1 jo => ?_
    obtain ⟨⟨ys, M2⟩, ev, e3⟩ := Option.bind_eq_some_iff.mp e2
    split at e3
    · rename_i hz
      cases e3
      refine lc_turns (Q := Q) (fun Z d v ι M Γ σ G H Γ' Q s r h q => uniG_ok C hg Z d v ι M Γ σ G H Γ' Q s r h fun σ' s' on => q σ' s' (on.sub hts)) (uniT_ok C ht) (uniE_ok C he) s1 jo ev hz fun Da ι2 G2 H2 vs c2 x2 nz hv rl => ?_
      obtain ⟨c3, sm⟩ := c2.show1 nz hv
      have x3 : Ext Z ι G H ι2 (upd G2 Da (.lst vs)) H2 := x1.trans ⟨x2.pre, x2.sm.trans sm, x2.zs⟩
      exact q ι2 _ H2 _ (s.at x3 c3) x3 (.d (.lst upd_same (rl.mono sm)))
    · cases e3
  · exact oi ι M Γ σ G H _ _ s e1 q
theorem de_lcC (ok : blkC N sc scope own = true := by decide +kernel) (hts : ts.all (fun i => (own.map (·.2)).contains i) = true := by decide) (hs : ∀ x, foldedSetIterable iter X.env x = pure x := by intro _; rfl) :
    DE X Wx Z (.ListComp elt [⟨tg, iter, ifs, 0⟩] scope pos) (eLcC (own.map (·.2)) i g tt fe) := by
  obtain ⟨wi, pi, oi⟩ := hi
  have ok' : BlkOk X.N X.env.scope scope own := by rw [C.hN, C.hs]; exact blkOk_by ok
  refine ⟨_, pe_lc C.calm (C.hN ▸ C.nd) pi ok' (fun s H0 Ca cl fp => pg_uni s H0 Ca cl fp) (fun s H0 Ca cl fp => pts_uni s H0 Ca cl fp) (fun s H0 Ca cl fp => pe_uni s H0 Ca cl fp) hs, fun ι M Γ σ G H out Q s e q => ?_⟩
  rcases bnd_some e with ⟨ds, M1, e1, e2⟩ | ⟨x, M1, e1, rfl⟩
  · refine oi ι M Γ σ G H _ _ s e1 fun ι1 G1 H1 J s1 x1 jo => ?_
    obtain ⟨⟨ys, M2⟩, ev, e3⟩ := Option.bind_eq_some_iff.mp e2
    split at e3
    · rename_i hz
      cases e3
      refine lc_turns (Q := Q) (fun Z d v ι M Γ σ G H Γ' Q s r h q => uniG_ok C hg Z d v ι M Γ σ G H Γ' Q s r h fun σ' s' on => q σ' s' (on.sub hts)) (uniT_ok C ht) (uniE_ok C he) s1 jo ev hz fun Da ι2 G2 H2 vs c2 x2 nz hv rl => ?_
      have c3 := c2.cell1 nz hv (CellOk.lst rl) (fun z => nomatch z)
      have x3 : Ext Z ι G H (ι2 ++ [Da]) G2 H2 := x1.trans (x2.trans ⟨⟨[Da], rfl⟩, Same.refl _, fun _ _ => rfl⟩)
      exact q _ _ H2 _ (s.at x3 c3) x3 (.r (by rw [← c2.ln]; simp))
    · cases e3
  · exact oi ι M Γ σ G H _ _ s e1 q
/-- name = [..] on one line, the name a local: the new list is a cell -/
theorem ds_setLcC {j : Nat} {y : Str} {py spos : Pos} (ok : blkC N sc scope own = true := by decide +kernel) (hts : ts.all (fun i => (own.map (·.2)).contains i) = true := by decide) (hj : N[j]? = some y := by rfl) (hyl : sc.names.lookup y = some .local := by rfl)
    (hsw : swapsWith (.ListComp elt [⟨tg, iter, ifs, 0⟩] scope pos) (some (.Name y py)) spos.line X.env = pure true) (hs : ∀ x, foldedSetIterable iter X.env x = pure x := by intro _; rfl) :
    DS X Wx Z (.Assign [.Name y py] (.ListComp elt [⟨tg, iter, ifs, 0⟩] scope pos) spos) (sSet j (eLcC (own.map (·.2)) i g tt fe)) := by
  obtain ⟨wi, pi, oi⟩ := hi
  have ok' : BlkOk X.N X.env.scope scope own := by rw [C.hN, C.hs]; exact blkOk_by ok
  refine ⟨_, ps_setLc (i := j) C.calm (C.hN ▸ C.nd) (C.hN ▸ hj) (C.g hyl) hsw pi ok' (fun s H0 Ca cl fp => pg_uni s H0 Ca cl fp) (fun s H0 Ca cl fp => pts_uni s H0 Ca cl fp) (fun s H0 Ca cl fp => pe_uni s H0 Ca cl fp) hs, fun ι M Γ σ G H out D s e q => ?_⟩
  rcases bndS_some e with ⟨wv, M3, e0, e9⟩ | ⟨x, M3, e0, rfl⟩
  · rcases bnd_some e0 with ⟨ds, M1, e1, e2⟩ | ⟨x, M1, e1, h⟩
    · refine oi ι M Γ σ G H _ _ s e1 fun ι1 G1 H1 J s1 x1 jo => ?_
      obtain ⟨⟨ys, M2⟩, ev, e3⟩ := Option.bind_eq_some_iff.mp e2
      split at e3
      · rename_i hz
        cases e3
        cases e9
        refine lc_turns (Q := fun x H1 => gName j x σ H1 D.nx) (fun Z d v ι M Γ σ G H Γ' Q s r h q => uniG_ok C hg Z d v ι M Γ σ G H Γ' Q s r h fun σ' s' on => q σ' s' (on.sub hts)) (uniT_ok C ht) (uniE_ok C he) s1 jo ev hz fun Da ι2 G2 H2 vs c2 x2 nz hv rl => ?_
        have c3 := c2.cell1 nz hv (CellOk.lst rl) (fun z => nomatch z)
        have x3 : Ext Z ι G H (ι2 ++ [Da]) G2 H2 := x1.trans (x2.trans ⟨⟨[Da], rfl⟩, Same.refl _, fun _ _ => rfl⟩)
        exact q _ _ H2 _ ((s.at x3 c3).set j (.r (by rw [← c2.ln]; simp))) x3
      · cases e3
    · cases h
  · rcases bnd_some e0 with ⟨ds, M1, e1, e2⟩ | ⟨x', M1, e1, h⟩
    · obtain ⟨p, _, e3⟩ := Option.bind_eq_some_iff.mp e2
      split at e3 <;> cases e3
    · cases h
      exact oi ι M Γ σ G H _ _ s e1 fun ι1 G1 H1 c d s1 x1 r1 => q ι1 G1 H1 σ c d s1 x1 r1
theorem ds_setLc {j : Nat} {y : Str} {py spos : Pos} (ok : blkC N sc scope own = true := by decide +kernel) (hts : ts.all (fun i => (own.map (·.2)).contains i) = true := by decide) (hj : N[j]? = some y := by rfl) (hyl : sc.names.lookup y = some .local := by rfl)
    (hsw : swapsWith (.ListComp elt [⟨tg, iter, ifs, 0⟩] scope pos) (some (.Name y py)) spos.line X.env = pure true) (hs : ∀ x, foldedSetIterable iter X.env x = pure x := by intro _; rfl) :
    DS X Wx Z (.Assign [.Name y py] (.ListComp elt [⟨tg, iter, ifs, 0⟩] scope pos) spos) (sSet j (eLc (own.map (·.2)) i g tt fe)) := by
  obtain ⟨wi, pi, oi⟩ := hi
  have ok' : BlkOk X.N X.env.scope scope own := by rw [C.hN, C.hs]; exact blkOk_by ok
  refine ⟨_, ps_setLc (i := j) C.calm (C.hN ▸ C.nd) (C.hN ▸ hj) (C.g hyl) hsw pi ok' (fun s H0 Ca cl fp => pg_uni s H0 Ca cl fp) (fun s H0 Ca cl fp => pts_uni s H0 Ca cl fp) (fun s H0 Ca cl fp => pe_uni s H0 Ca cl fp) hs, fun ι M Γ σ G H out D s e q => ?_⟩
  rcases bndS_some e with ⟨wv, M3, e0, e9⟩ | ⟨x, M3, e0, rfl⟩
  · rcases bnd_some e0 with ⟨ds, M1, e1, e2⟩ | ⟨x, M1, e1, h⟩
    · refine oi ι M Γ σ G H _ _ s e1 fun ι1 G1 H1 J s1 x1 jo => ?_
      obtain ⟨⟨ys, M2⟩, ev, e3⟩ := Option.bind_eq_some_iff.mp e2
      split at e3
      · rename_i hz
        cases e3
        cases e9
        refine lc_turns (Q := fun x H1 => gName j x σ H1 D.nx) (fun Z d v ι M Γ σ G H Γ' Q s r h q => uniG_ok C hg Z d v ι M Γ σ G H Γ' Q s r h fun σ' s' on => q σ' s' (on.sub hts)) (uniT_ok C ht) (uniE_ok C he) s1 jo ev hz fun Da ι2 G2 H2 vs c2 x2 nz hv rl => ?_
        obtain ⟨c3, sm⟩ := c2.show1 nz hv
        have x3 : Ext Z ι G H ι2 (upd G2 Da (.lst vs)) H2 := x1.trans ⟨x2.pre, x2.sm.trans sm, x2.zs⟩
        exact q _ _ H2 _ ((s.at x3 c3).set j (.d (.lst upd_same (rl.mono sm)))) x3
      · cases e3
    · cases h
  · rcases bnd_some e0 with ⟨ds, M1, e1, e2⟩ | ⟨x', M1, e1, h⟩
    · obtain ⟨p, _, e3⟩ := Option.bind_eq_some_iff.mp e2
      split at e3 <;> cases e3
    · cases h
      exact oi ι M Γ σ G H _ _ s e1 fun ι1 G1 H1 c d s1 x1 r1 => q ι1 G1 H1 σ c d s1 x1 r1
end
theorem de_gint (C : Ctx P w K mg base X N sc Wx k) {x : Str} {z : Int} (hm : ∃ t, mg x = some (.int z t)) (hg : sc.names.lookup x = some .globalImplicit := by rfl) (hd : (x == ("__debug__" : Str)) = false := by decide) : DE X Wx Z (.Name x pos) (eC (.int z)) := by
  obtain ⟨t, hm⟩ := hm
  exact de_glob C hm (v := .int z) ⟨t, rfl⟩ (fun _ => .int z) hg hd
theorem de_gstr (C : Ctx P w K mg base X N sc Wx k) {x z : Str} (hm : ∃ t, mg x = some (.str z t)) (hg : sc.names.lookup x = some .globalImplicit := by rfl) (hd : (x == ("__debug__" : Str)) = false := by decide) : DE X Wx Z (.Name x pos) (eC (.str z)) := by
  obtain ⟨t, hm⟩ := hm
  exact de_glob C hm (v := .str z) ⟨t, rfl⟩ (fun _ => .str z) hg hd
end
end DL

set_option Elab.async false
set_option linter.all false
set_option maxRecDepth 100000
set_option autoImplicit false
set_option maxHeartbeats 1000000
namespace DL
open PySem PySem.Spec PyProof.Rows L2
variable [PWd]
section
variable {prog : Program} {w : World} {A : Around} {E : Value → Shared → Prop} {s : Shared}
theorem wpAny_dictPut {d : Addr} {kvs : List (Key × Value)} {k : Key} {key v : Value} {Q : Unit → Shared → Prop} (hkey : (mixKind prog w).is k key = true) (hm : s.heap.DictOf (mixKind prog w) d kvs)
    (hQ : ∀ h', h'.DictOf (mixKind prog w) d (stored kvs k v) → Heap.SameBut d s.heap h' → Q () { s with heap := h' }) (hsz : kvs.length ≤ sizeLine) :
    wpAny (model prog w) A (dictPut d ((mixKind prog w).hash k) key v) Q E s := by
  obtain ⟨o, es, ep, ho, hc, hd, hk, hp, hn⟩ := hm
  have hes : es.size ≤ sizeLine := by have e1 := hp.length; have e2 : es.toList.length = es.size := by simp
                                      omega
  unfold dictPut
  refine wpAny_bind (wpAny_dictFind_of hkey ho hd hk ?_)
  have hidx : (es.findIdx? fun e => (mixKind prog w).is k e.key) = kvs.findIdx? fun kv => decide (kv.1 = k) := by
    rw [← hp.findIdx k]; obtain ⟨l⟩ := es; simp
  cases hi : es.findIdx? fun e => (mixKind prog w).is k e.key with
  | some i =>
    refine wpAny_updateDict ho hd (hQ _ ⟨_, _, ep, Heap.get?_update_self _ ho (Obj.isFreed_of_dict (Obj.data_mapDict hd _)),
      hc.mapDict _, Obj.data_mapDict hd _, hk.modify _ _, ?_, ?_⟩ (Heap.SameBut.update ..))
    · rw [stored, if_pos (any_of_findIdx_some (hidx ▸ hi))]
      have hl : (es.toList.findIdx? fun e => (mixKind prog w).is k e.key) = some i := by rw [← hi]; obtain ⟨l⟩ := es; simp
      have := hp.modify hn hl v
      obtain ⟨l⟩ := es
      simpa using this
    · rw [stored, if_pos (any_of_findIdx_some (hidx ▸ hi)), keys_map_store]; exact hn
  | none =>
    have hnot : k ∉ kvs.map (·.1) := not_mem_of_findIdx_none (hidx ▸ hi)
    have hany : ¬ (kvs.any fun kv => decide (kv.1 = k)) = true := by
      rw [List.any_eq_true]; rintro ⟨kv, hkv, he⟩
      exact hnot (List.mem_map.mpr ⟨kv, hkv, of_decide_eq_true he⟩)
    refine wpAny_updateDictKeys (hz := hes) ho hd (hQ _ ⟨_, _, ep + 1, Heap.get?_update_self _ ho (Obj.isFreed_of_dict (Obj.data_mapDictKeys hd _)),
      hc.mapDictKeys _, Obj.data_mapDictKeys hd _, hk.push hkey _, ?_, ?_⟩ (Heap.SameBut.update ..))
    · rw [stored, if_neg hany]
      have := hp.append hkey ((mixKind prog w).hash k) v
      obtain ⟨l⟩ := es
      simpa using this
    · rw [stored, if_neg hany, List.map_append, List.nodup_append]
      refine ⟨hn, by simp, ?_⟩
      intro a ha b hb
      simp only [List.map_cons, List.map_nil, List.mem_singleton] at hb
      subst hb
      exact fun e => hnot (e ▸ ha)
theorem wpAny_mergeMapping {d o : Addr} {kvs more : List (Key × Value)} {Q : Unit → Shared → Prop} (hdo : d ≠ o) (hoS : (o == sysModules) = false)
    (hd : s.heap.DictOf (mixKind prog w) d kvs) (ho : s.heap.DictOf (mixKind prog w) o more)
    (hQ : ∀ h', h'.DictOf (mixKind prog w) d (merged kvs more) → h'.DictOf (mixKind prog w) o more → Heap.SameBut d s.heap h' → Q () { s with heap := h' })
    (hsz : kvs.length + more.length ≤ sizeLine) :
    wpAny (model prog w) A (mergeMapping d (.ref o) false) Q E s := by
  obtain ⟨od, esd, epd, hod, hcd, hdd, hkd, hpd, hnd⟩ := id hd
  obtain ⟨oo, eso, epo, hoo, hco, hdo', hko, hpo, hno⟩ := id ho
  have hlen : more.length = eso.size := by rw [← hpo.length]; simp
  have keys : ∀ e ∈ eso, ∀ a, e.key ≠ .ref a := fun e he a z => by
    obtain ⟨k', hk', _⟩ := hko e he
    rw [z] at hk'
    rcases keyIs_shape (k := k') hk' with ⟨i, t, _, q⟩ | ⟨x, t, _, q⟩ <;> cases q
  have loop : wpAny (model prog w) A (do
      let l ← dictEntries o
      let size : Nat := l.size
      let epoch ← dictEpoch o
      forIn (List.range size) PUnit.unit fun i (_ : PUnit) => (do
          let l' ← dictEntries o
          match l'[i]? with
            | some e => do
              holding [e.key, e.val] (dictPut d e.hash e.key e.val)
              let ep' ← dictEpoch o
              if (ep' != epoch) = true then do
                  (unsupported "dict.changed-during-merge" : Sem PUnit)
                  pure (ForInStep.yield PUnit.unit)
                else pure (ForInStep.yield PUnit.unit)
            | _ => do
              (unsupported "dict.changed-during-merge" : Sem PUnit)
              pure (ForInStep.yield PUnit.unit) : Sem (ForInStep PUnit))
      pure ()) Q E s := by
    refine wpAny_bind (wpAny_dictEntries hoo hdo' ?_)
    refine wpAny_bind (wpAny_dictEpoch hoo hdo' ?_)
    refine wpAny_bind ?_
    rw [List.range_eq_range']
    refine wpAny_forIn_list _
      (fun rest _ s' => ∃ h' i, s' = { s with heap := h' } ∧ rest = List.range' i (eso.size - i) ∧ i ≤ eso.size ∧ h'.DictOf (mixKind prog w) d (merged kvs (more.take i)) ∧ h'.get? o = some oo ∧ Heap.SameBut d s.heap h')
      _ ?_ ?_ _ _ ⟨s.heap, 0, rfl, by simp, Nat.zero_le _, by simpa [merged] using hd, hoo, Heap.SameBut.refl _ _⟩
    · rintro x rest b s' ⟨h', i, rfl, hr, hi, hd', hoo', hs'⟩
      have hlt : i < eso.size := by
        rcases Nat.lt_or_ge i eso.size with h | h
        · exact h
        · rw [Nat.sub_eq_zero_of_le h] at hr; simp at hr
      obtain ⟨rfl, hrest⟩ : x = i ∧ rest = List.range' (i + 1) (eso.size - (i + 1)) := by
        have e : eso.size - i = (eso.size - (i + 1)) + 1 := by omega
        rw [e, List.range'_succ] at hr
        injection hr with h1 h2
        exact ⟨h1, h2⟩
      refine wpAny_bind (wpAny_dictEntries hoo' hdo' ?_)
      rw [Array.getElem?_eq_getElem hlt]
      obtain ⟨kv, hkv⟩ : ∃ kv, more[x]? = some kv := ⟨more[x]'(by rw [hlen]; exact hlt), List.getElem?_eq_getElem _⟩
      obtain ⟨k, v⟩ := kv
      obtain ⟨hkey, hval⟩ := hpo.get? (e := eso[x]) (by simp [hlt]) hkv
      obtain ⟨k', hkey', hhash⟩ := hko eso[x] (Array.getElem_mem hlt)
      obtain rfl : k' = k := (mixKind prog w).inj _ _ _ hkey' hkey
      show wpAny _ _ (holding [eso[x].key, eso[x].val] (dictPut d eso[x].hash eso[x].key eso[x].val) >>= _) _ _ _
      rw [hhash, hval]
      have hmx : (merged kvs (more.take x)).length ≤ sizeLine := by
        have e1 := merged_length_le kvs (more.take x)
        have e2 : (more.take x).length ≤ more.length := by rw [List.length_take]; omega
        omega
      refine wpAny_bind (wpAny_holding (wpAny_dictPut (hsz := hmx) hkey hd' fun h'' hd'' hs'' => ?_))
      have hoo'' : h''.get? o = some oo := (hs''.2 o (Ne.symm hdo)).trans hoo'
      refine wpAny_bind (wpAny_dictEpoch hoo'' hdo' ?_)
      rw [if_neg (by simp)]
      exact wpAny_pure ⟨h'', x + 1, rfl, hrest, hlt, by rw [merged_take_succ kvs more x (k', v) hkv]; exact hd'', hoo'', hs'.trans hs''⟩
    · rintro b s' ⟨h', i, rfl, hr, hi, hd', hoo', hs'⟩
      have hin : i = eso.size := by
        rcases Nat.lt_or_ge i eso.size with h | h
        · have e : eso.size - i = (eso.size - (i + 1)) + 1 := by omega
          rw [e, List.range'_succ] at hr; exact nomatch hr
        · exact Nat.le_antisymm hi h
      refine wpAny_pure (hQ h' ?_ ⟨oo, eso, epo, hoo', hco, hdo', hko, hpo, hno⟩ hs')
      rw [hin, ← hlen, List.take_length] at hd'; exact hd'
  unfold mergeMapping
  refine wpAny_bind (wpAny_isInstance ho.typeIs isSubtype_dict_dict ?_)
  simp only [if_true]
  refine wpAny_bind (wpAny_specialOf ho.typeIs F.slot_dict_iter.lookup (wpAny_bind (wpAny_pure ?_)))
  simp only [beq_self_eq_true]
  rw [if_neg (by rw [hoS]; exact Bool.false_ne_true)]
  refine wpAny_bind (wpAny_dictEntries hod hdd ?_)
  split
  · refine wpAny_bind (wpAny_dictEntries hoo hdo' ?_)
    refine wpAny_bind (wpAny_forIn_array' _ (fun rest _ s' => s' = s ∧ ∀ e ∈ rest, e ∈ eso) _ ?_ ?_ _ _ ⟨rfl, fun e h => by simpa using h⟩)
    · rintro e rest b s' ⟨rfl, hr⟩
      have ne := keys e (hr e List.mem_cons_self)
      cases hk : e.key with
      | ref a => exact absurd hk (ne a)
      | _ => exact wpAny_pure ⟨rfl, fun e' h => hr e' (List.mem_cons_of_mem _ h)⟩
    · rintro b s' ⟨rfl, _⟩
      exact loop
  · exact loop
theorem mm_onRaise {α : Type} {M : Model} {m : Sem α} {k : Value → Sem Unit} {Q : α → Shared → Prop} (h : wpAny M A m Q (fun _ _ => False) s) : wpAny M A (m.onRaise k) Q E s :=
  wpAny_onRaise (wpAny_mono h (fun _ _ z => z) fun _ _ z => z.elim)
theorem mm_tryCatch {α : Type} {M : Model} {m : Sem α} {k : Value → Sem α} {Q : α → Shared → Prop} (h : wpAny M A m Q (fun _ _ => False) s) : wpAny M A (m.tryCatch k) Q E s :=
  wpAny_tryCatch (wpAny_mono h (fun _ _ z => z) fun _ _ z => z.elim)
theorem wpAny_starDisplay {Q : Value → Shared → Prop} (m k v : Sem Value)
   (h : wpAny (model prog w) A m (fun mv s1 => ∃ o more, mv = .ref o ∧ (o == sysModules) = false ∧ s.heap.objs.size ≠ o ∧ more.length < sizeLine ∧ s1.heap.DictOf (mixKind prog w) s.heap.objs.size [] ∧ s1.heap.DictOf (mixKind prog w) o more ∧
      ∀ h1, h1.DictOf (mixKind prog w) s.heap.objs.size (merged [] more) → Heap.SameBut s.heap.objs.size s1.heap h1 →
        wpAny (model prog w) A (evalPairs [(k, v)]) (fun vs s₁ => ∃ kvs more', Carries (mixKind prog w) vs kvs ∧ kvs.length ≤ 1 ∧ more'.length < sizeLine ∧ s₁.heap.DictOf (mixKind prog w) s.heap.objs.size more' ∧ s₁.heap.DictOf (mixKind prog w) h1.objs.size [] ∧
      ∀ h' h'' t', h'.DictOf (mixKind prog w) h1.objs.size (merged [] kvs) → Heap.SameBut h1.objs.size s₁.heap h' → h''.DictOf (mixKind prog w) s.heap.objs.size (merged more' (merged [] kvs)) → h''.DictOf (mixKind prog w) h1.objs.size (merged [] kvs) → Heap.SameBut s.heap.objs.size h' h'' → Q (.ref s.heap.objs.size) { s₁ with heap := h'', toks := t' }) E
      { s1 with heap := h1.push { cls := .type "dict", data := .dict #[] } }) E { s with heap := s.heap.push { cls := .type "dict", data := .dict #[] } }) (hbig : sysModules < s.heap.objs.size) :
   wpAny (model prog w) A (dictDisplay [(none, m), (some k, v)]) Q E s := by
  unfold dictDisplay
  dsimp only
  rw [List.forIn_cons]
  refine wpAny_bind (wpAny_bind ?_)
  dsimp only
  rw [if_pos List.isEmpty_nil]
  refine wpAny_bind (wpAny_pure ?_)
  dsimp only
  refine wpAny_bind (wpAny_alloc ?_)
  refine wpAny_bind (wpAny_holding (wpAny_mono h (fun mv s1 hm => ?_) fun _ _ z => z))
  obtain ⟨o, more, rfl, hS, hne, hl, hD, hO, hk⟩ := hm
  refine wpAny_bind (mm_onRaise (mm_tryCatch (mm_onRaise (wpAny_holding ?_))))
  refine wpAny_mergeMapping hne hS hD hO (fun h1 hd1 ho1 hs1 => ?_) (by rw [List.length_nil]; omega)
  refine wpAny_pure ?_
  dsimp only
  rw [List.forIn_cons]
  refine wpAny_bind ?_
  dsimp only
  rw [if_neg (by simp)]
  refine wpAny_pure ?_
  dsimp only
  rw [List.forIn_nil]
  refine wpAny_pure ?_
  dsimp only
  rw [if_neg (by simp)]
  refine wpAny_bind (wpAny_bind (wpAny_holding ?_))
  refine wpAny_subDict (knd := mixKind prog w) (by simp) (wpAny_mono (hk h1 hd1 hs1) (fun vs s2 hv => ?_) fun _ _ z => z)
  obtain ⟨kvs, more', hc, hl1, hlm, hd2, hn2, hq⟩ := hv
  refine ⟨kvs, hc, hn2, fun h' hd' hs' => ?_⟩
  have hne2 : s.heap.objs.size ≠ h1.objs.size := by
    obtain ⟨_, _, _, hg, _⟩ := hd1
    exact Nat.ne_of_lt (Heap.lt_size hg)
  have hd3 : h'.DictOf (mixKind prog w) s.heap.objs.size more' := hd2.sameBut hs' hne2
  have hlk : (merged ([] : List (Key × Value)) kvs).length ≤ 1 := by have := merged_length_le ([] : List (Key × Value)) kvs; simp at this; omega
  refine wpAny_bind (mm_onRaise (wpAny_holding ?_))
  refine wpAny_mergeMapping hne2 (beq_eq_false_iff_ne.mpr fun z => ?_) hd3 hd' (fun h'' hd4 hd5 hs4 => ?_) (by omega)
  · obtain ⟨_, _, _, hg, _⟩ := hd1
    exact absurd (Nat.lt_trans hbig (Heap.lt_size hg)) (by rw [z]; exact Nat.lt_irrefl _)
  exact wpAny_pure (wpAny_pure (hq h' h'' _ hd' hs' hd4 hd5 hs4))
end
section
variable {X : Cx}
/-- {**m, k: v} -/
def tDStar (tm tk tv : TE) : TE := fun σ H Q => ∀ p, H p = none → tm σ (upd H p (.dK [])) fun x H1 => ∃ a kvs, x = .ref a ∧ a ≠ p ∧ kvs.length < sizeLine ∧ H1 p = some (.dK []) ∧ Rd H1 a (.dK kvs) ∧
  ∀ p2, upd H1 p (.dK kvs) p2 = none → tk σ (upd (upd H1 p (.dK kvs)) p2 (.dK [])) fun y H2 => tv σ H2 fun z H3 => ∃ k kvs3, y = kV k ∧ kvs3.length < sizeLine ∧ H3 p2 = some (.dK []) ∧ H3 p = some (.dK kvs3) ∧ Q (.ref p) (upd (upd H3 p2 (.dK [(k, z)])) p (.dK (putK kvs3 k z)))
theorem pe_dstar {m k v : Expr} {tm tk tv : TE} {pos : Pos} (hm : PE X m tm) (hk : PE X k tk) (hv : PE X v tv) : PE X (.Dict [none, some k] [m, v] pos) (tDStar tm tk tv) := by
  refine ⟨fun pins s σ H Q I h => ?_⟩
  rw [arm_eval_Dict]
  refine wpAny_bind (wpAny_standAt ?_)
  have hn := I.hok.fresh (Nat.le_refl s.heap.objs.size)
  have I1 := I.laid (a := s.heap.objs.size) (o := .dK []) (h' := s.heap.push { cls := .type "dict", data := .dict #[] }) (t' := s.toks) (fun _ _ q => Heap.get?_push_of_some _ q) (Nat.le_refl _) (dk_empty s.heap I.big)
  show wpAny (model X.prog X.w) X.A (dictDisplay [(none, do let x ← eval m X.env; standAt pos; pure x), (some (eval k X.env), do let x ← eval v X.env; standAt pos; pure x)]) _ _ s
  refine wpAny_starDisplay _ _ _ ?_ I.big
  refine wpAny_bind (thn (hm.run pins _ σ _ _ I1 (h _ hn)) fun u s1 ⟨x, H1, I2, rx, a, kvs, ex, hne, hl, hp, ha, q⟩ => ?_)
  subst ex
  cases rx
  refine wpAny_bind (wpAny_standAt (wpAny_pure ?_))
  obtain ⟨z1, hS, vs, rel, dd⟩ := dk_rd I2.hok ha
  obtain ⟨z2, hS2, vs0, r0, dd0⟩ := dk_of I2.hok hp
  cases r0
  have hnd : (vs.map (·.1)).Nodup := let ⟨_, _, _, _, _, _, _, _, hn⟩ := dd; hn
  have mvs := merged_nil_of_nodup vs hnd
  refine ⟨a, vs, rfl, hS, Ne.symm hne, by rw [← rel.length]; exact hl, dd0, dd, fun h1 hd1 hs1 => ?_⟩
  rw [mvs] at hd1
  have I3 : Inv X pins σ (upd H1 s.heap.objs.size (.dK kvs)) { s1 with heap := h1, toks := s1.toks } :=
    d_write I2 (by rw [hp]; exact True.intro) hs1 (let ⟨q, _, _, hq, _⟩ := hd1; ⟨q, hq⟩) (dk_new z1 hS2 rel hd1)
  have hn2 : upd H1 s.heap.objs.size (.dK kvs) h1.objs.size = none := I3.hok.fresh (Nat.le_refl h1.objs.size)
  have I4 := I3.laid (a := h1.objs.size) (o := .dK []) (h' := h1.push { cls := .type "dict", data := .dict #[] }) (t' := s1.toks) (fun _ _ q => Heap.get?_push_of_some _ q) (Nat.le_refl _) (dk_empty h1 I3.big)
  have ne12 : s.heap.objs.size ≠ h1.objs.size := by
    obtain ⟨_, _, _, hg, _⟩ := hd1
    exact Nat.ne_of_lt (Heap.lt_size hg)
  have pp : PPs X pos [some k] [v] [(tk, tv)] := pps_cons hk hv pps_nil
  refine thn (pp.run pins _ σ _ (fun ps H3 => match ps with
    | [(y, z)] => ∃ k kvs3, y = kV k ∧ kvs3.length < sizeLine ∧ H3 h1.objs.size = some (.dK []) ∧ H3 s.heap.objs.size = some (.dK kvs3) ∧ Q (.ref s.heap.objs.size) (upd (upd H3 h1.objs.size (.dK [(k, z)])) s.heap.objs.size (.dK (putK kvs3 k z)))
    | _ => False) I4 (q _ hn2)) fun ws s2 ⟨ps, H3, I5, rv, q2⟩ => ?_
  match ps, rv, q2 with
  | [(y, z)], rv, ⟨kk, kvs3, ey, hl3, e2, e1, q2⟩ =>
  subst ey
  obtain ⟨rs, c, rk⟩ := carries_of (P := X.prog) (w := X.w) (kvs := [(kk, z)]) rv
  obtain ⟨w1, w2, vs2, r2, dd2⟩ := dk_of I5.hok e2
  cases r2
  obtain ⟨w3, w4, vs3, r3, dd3⟩ := dk_of I5.hok e1
  have hrs : rs.length ≤ 1 := by have := rk.length; simp at this; omega
  refine ⟨rs, vs3, c, hrs, by rw [← r3.length]; exact hl3, dd3, dd2, fun h' h'' t' d1 s1' d2 d3 s2' => ?_⟩
  obtain ⟨rz, hrz⟩ : ∃ rz, rs = [(kk, rz)] ∧ RelV z rz := by
    cases rk with
    | @cons _ b _ _ a t =>
      cases t
      obtain ⟨a1, a2⟩ := a
      obtain ⟨b1, b2⟩ := b
      cases a1
      exact ⟨b2, rfl, a2⟩
  obtain ⟨rfl, rrz⟩ := hrz
  have e3 : (merged ([] : List (Key × Value)) [(kk, rz)]) = [(kk, rz)] := rfl
  rw [e3] at d1 d2 d3
  have J1 : Inv X pins σ (upd H3 h1.objs.size (.dK [(kk, z)])) { s2 with heap := h', toks := t' } :=
    d_write I5 (by rw [e2]; exact True.intro) s1' (let ⟨q, _, _, hq, _⟩ := d1; ⟨q, hq⟩) (dk_new (by show 1 ≤ sizeLine; decide) w2 rk d1)
  have e4 : upd H3 h1.objs.size (.dK [(kk, z)]) s.heap.objs.size = some (.dK kvs3) := by rw [upd_ne ne12]; exact e1
  have hpl : (putK kvs3 kk z).length ≤ sizeLine := by have := length_putK kvs3 kk z; omega
  have J2 : Inv X pins σ (upd (upd H3 h1.objs.size (.dK [(kk, z)])) s.heap.objs.size (.dK (putK kvs3 kk z))) { s2 with heap := h'', toks := t' } :=
    d_write (s := { s2 with heap := h', toks := t' }) J1 (by rw [e4]; exact True.intro) s2' (let ⟨q, _, _, hq, _⟩ := d2; ⟨q, hq⟩) (dk_new hpl w4 (r3.put kk rrz) d2)
  exact ⟨.ref s.heap.objs.size, _, J2, rfl, q2⟩
end
end DL

set_option Elab.async false
set_option linter.all false
set_option maxRecDepth 100000
set_option autoImplicit false
set_option maxHeartbeats 1000000
namespace DL
open PySem PySem.Spec PyProof.Rows L2
variable [PWd]
section
variable {prog : Program} {w : World} {A : Around} {E : Value → Shared → Prop} {s : Shared} {elt kx vx tg iter : Expr} {ifs : List Expr} {gens : List Comprehension} {scope : Scope} {pos : Pos} {it acc : Value} {env : PySem.Env} {j : Nat}
/-- the tests of a clause, one behind another -/
def tests (ifs : List Expr) (env : PySem.Env) : Sem Bool := forIn ifs true fun c r => if r = true then do let ok ← isTrue c env (eval c env); pure (ForInStep.yield ok) else pure (ForInStep.yield r)
/-- the next clause's source is made -/
def InnerW (prog : Program) (w : World) (A : Around) (E : Value → Shared → Prop) (e : Expr) (g : Comprehension) (j : Nat) (acc : Value) (env : PySem.Env) (Q : Shared → Prop) (s : Shared) : Prop :=
  wpAny (model prog w) A (eval g.iter env) (fun x s1 => wpAny (model prog w) A (pyIter x) (fun i1 s2 => codeAny (model prog w) A (.compStart e (j + 1) i1 acc env) (fun r s' => match r with
    | .ok _ => Q s'
    | .error _ => False) s2) E s1) E s
/-- what a turn is to do -/
def TurnW (prog : Program) (w : World) (A : Around) (E : Value → Shared → Prop) (tg : Expr) (ifs : List Expr) (it : Value) (env : PySem.Env) (rest : (Shared → Prop) → Shared → Prop) (Qd Qa : Shared → Prop) (s : Shared) : Prop :=
  wpAny (model prog w) A (pyNext it) (fun r s1 => match r with
    | none => Qd s1
    | some v => wpAny (model prog w) A (letOwnedTupleGo tg it v) (fun _ s2 => wpAny (model prog w) A (assign tg env v) (fun _ s3 => wpAny (model prog w) A (tests ifs env) (fun ok s4 => if ok = true then rest Qa s4 else Qa s4) E s3) E s2) E s1) E s
def RestW (prog : Program) (w : World) (A : Around) (E : Value → Shared → Prop) (e : Expr) (emit : Sem Unit) (g : Option Comprehension) (j : Nat) (acc : Value) (env : PySem.Env) (Q : Shared → Prop) (s : Shared) : Prop :=
  match g with
  | none => wpAny (model prog w) A emit (fun _ s' => Q s') E s
  | some g => InnerW prog w A E e g j acc env Q s
def emL (elt : Expr) (acc : Value) (env : PySem.Env) : Sem Unit := do let _ ← call (.builtin "list.append") [acc, ← eval elt env]
def emS (elt : Expr) (acc : Value) (env : PySem.Env) : Sem Unit := do
  let v ← eval elt env
  standAt elt.pos
  let _ ← call (.builtin "set.add") [acc, v]
def emD (kx vx : Expr) (acc : Value) (env : PySem.Env) : Sem Unit := do
  let kv ← eval kx env
  let vv ← holding [kv] (eval vx env)
  match acc with
  | .ref d => do
    standAt { kx.pos with endLine := vx.pos.endLine, endCol := vx.pos.endCol }
    holding [kv, vv] (dictSet d kv vv)
  | _ => unsupported "internal:dictcomp"
theorem turn_list {Qd Qa : Shared → Prop} (hj : gens[j]? = some ⟨tg, iter, ifs, 0⟩) (hn : ∀ g, gens[j + 1]? = some g → g.is_async = 0 ∧ ∀ x, foldedSetIterable g.iter env x = pure x)
    (h : TurnW prog w A E tg ifs it env (RestW prog w A E (.ListComp elt gens scope pos) (emL elt acc env) gens[j + 1]? j acc env) Qd Qa s) :
    wpAny (model prog w) A (compTurn (.ListComp elt gens scope pos) j it acc env) (fun fin s' => match fin with
      | .done f => f = .next ∧ Qd s'
      | .again c => c = .compLoop (.ListComp elt gens scope pos) j it acc env ∧ Qa s') E s := by
  unfold compTurn
  dsimp only
  rw [hj]
  dsimp only
  refine wpAny_bind (wpAny_standAt ?_)
  refine wpAny_bind (wpAny_mono h (fun r s1 h1 => ?_) fun _ _ z => z)
  cases r with
  | none => exact wpAny_pure ⟨rfl, h1⟩
  | some v =>
    refine wpAny_bind (wpAny_mono h1 (fun _ s2 h2 => ?_) fun _ _ z => z)
    refine wpAny_bind (wpAny_mono h2 (fun _ s3 h3 => ?_) fun _ _ z => z)
    refine wpAny_bind (wpAny_mono h3 (fun ok s4 h4 => ?_) fun _ _ z => z)
    cases ok with
    | false => exact wpAny_pure ⟨rfl, h4⟩
    | true =>
      rw [if_pos rfl] at h4 ⊢
      cases hg : gens[j + 1]? with
      | none =>
        rw [hg] at h4
        exact wpAny_bind (wpAny_mono h4 (fun _ s5 h5 => wpAny_pure ⟨rfl, h5⟩) fun _ _ z => z)
      | some g =>
        rw [hg] at h4
        obtain ⟨ha, hs⟩ := hn g hg
        refine wpAny_bind (wpAny_mono h4 (fun x s5 h5 => ?_) fun _ _ z => z)
        refine wpAny_bind (wpAny_standAt ?_)
        rw [ha]
        refine wpAny_bind (wpAny_of_eq (hs x) (wpAny_bind (wpAny_holding (wpAny_mono h5 (fun i1 s6 h6 => ?_) fun _ _ z => z))))
        refine wpAny_bind (wpAny_runOwn ?_)
        rw [Around.mark_none]
        refine codeAny_mono h6 fun r s' hr => ?_
        cases r with
        | ok f => exact wpAny_pure ⟨rfl, hr⟩
        | error e => exact hr.elim
theorem turn_set {Qd Qa : Shared → Prop} (hj : gens[j]? = some ⟨tg, iter, ifs, 0⟩) (hn : ∀ g, gens[j + 1]? = some g → g.is_async = 0 ∧ ∀ x, foldedSetIterable g.iter env x = pure x)
    (h : TurnW prog w A E tg ifs it env (RestW prog w A E (.SetComp elt gens scope pos) (emS elt acc env) gens[j + 1]? j acc env) Qd Qa s) :
    wpAny (model prog w) A (compTurn (.SetComp elt gens scope pos) j it acc env) (fun fin s' => match fin with
      | .done f => f = .next ∧ Qd s'
      | .again c => c = .compLoop (.SetComp elt gens scope pos) j it acc env ∧ Qa s') E s := by
  unfold compTurn
  dsimp only
  rw [hj]
  dsimp only
  refine wpAny_bind (wpAny_standAt ?_)
  refine wpAny_bind (wpAny_mono h (fun r s1 h1 => ?_) fun _ _ z => z)
  cases r with
  | none => exact wpAny_pure ⟨rfl, h1⟩
  | some v =>
    refine wpAny_bind (wpAny_mono h1 (fun _ s2 h2 => ?_) fun _ _ z => z)
    refine wpAny_bind (wpAny_mono h2 (fun _ s3 h3 => ?_) fun _ _ z => z)
    refine wpAny_bind (wpAny_mono h3 (fun ok s4 h4 => ?_) fun _ _ z => z)
    cases ok with
    | false => exact wpAny_pure ⟨rfl, h4⟩
    | true =>
      rw [if_pos rfl] at h4 ⊢
      cases hg : gens[j + 1]? with
      | none =>
        rw [hg] at h4
        exact wpAny_bind (wpAny_mono h4 (fun _ s5 h5 => wpAny_pure ⟨rfl, h5⟩) fun _ _ z => z)
      | some g =>
        rw [hg] at h4
        obtain ⟨ha, hs⟩ := hn g hg
        refine wpAny_bind (wpAny_mono h4 (fun x s5 h5 => ?_) fun _ _ z => z)
        refine wpAny_bind (wpAny_standAt ?_)
        rw [ha]
        refine wpAny_bind (wpAny_of_eq (hs x) (wpAny_bind (wpAny_holding (wpAny_mono h5 (fun i1 s6 h6 => ?_) fun _ _ z => z))))
        refine wpAny_bind (wpAny_runOwn ?_)
        rw [Around.mark_none]
        refine codeAny_mono h6 fun r s' hr => ?_
        cases r with
        | ok f => exact wpAny_pure ⟨rfl, hr⟩
        | error e => exact hr.elim
theorem turn_dict {Qd Qa : Shared → Prop} (hj : gens[j]? = some ⟨tg, iter, ifs, 0⟩) (hn : ∀ g, gens[j + 1]? = some g → g.is_async = 0 ∧ ∀ x, foldedSetIterable g.iter env x = pure x)
    (h : TurnW prog w A E tg ifs it env (RestW prog w A E (.DictComp kx vx gens scope pos) (emD kx vx acc env) gens[j + 1]? j acc env) Qd Qa s) :
    wpAny (model prog w) A (compTurn (.DictComp kx vx gens scope pos) j it acc env) (fun fin s' => match fin with
      | .done f => f = .next ∧ Qd s'
      | .again c => c = .compLoop (.DictComp kx vx gens scope pos) j it acc env ∧ Qa s') E s := by
  unfold compTurn
  dsimp only
  rw [hj]
  dsimp only
  refine wpAny_bind (wpAny_standAt ?_)
  refine wpAny_bind (wpAny_mono h (fun r s1 h1 => ?_) fun _ _ z => z)
  cases r with
  | none => exact wpAny_pure ⟨rfl, h1⟩
  | some v =>
    refine wpAny_bind (wpAny_mono h1 (fun _ s2 h2 => ?_) fun _ _ z => z)
    refine wpAny_bind (wpAny_mono h2 (fun _ s3 h3 => ?_) fun _ _ z => z)
    refine wpAny_bind (wpAny_mono h3 (fun ok s4 h4 => ?_) fun _ _ z => z)
    cases ok with
    | false => exact wpAny_pure ⟨rfl, h4⟩
    | true =>
      rw [if_pos rfl] at h4 ⊢
      cases hg : gens[j + 1]? with
      | none =>
        rw [hg] at h4
        exact wpAny_bind (wpAny_mono h4 (fun _ s5 h5 => wpAny_pure ⟨rfl, h5⟩) fun _ _ z => z)
      | some g =>
        rw [hg] at h4
        obtain ⟨ha, hs⟩ := hn g hg
        refine wpAny_bind (wpAny_mono h4 (fun x s5 h5 => ?_) fun _ _ z => z)
        refine wpAny_bind (wpAny_standAt ?_)
        rw [ha]
        refine wpAny_bind (wpAny_of_eq (hs x) (wpAny_bind (wpAny_holding (wpAny_mono h5 (fun i1 s6 h6 => ?_) fun _ _ z => z))))
        refine wpAny_bind (wpAny_runOwn ?_)
        rw [Around.mark_none]
        refine codeAny_mono h6 fun r s' hr => ?_
        cases r with
        | ok f => exact wpAny_pure ⟨rfl, hr⟩
        | error e => exact hr.elim

section
variable {R : Result → Shared → Prop}
theorem start_list (hj : gens[j]? = some ⟨tg, iter, ifs, 0⟩) (h0 : codeAny (model prog w) A (.compLoop (.ListComp elt gens scope pos) j it acc env) R s)
    (hi : ∀ (Q : Value → Shared → Prop) (E : Value → Shared → Prop), Q it s → wpAny (model prog w) A (pyIter it) Q E s) : codeAny (model prog w) A (.compStart (.ListComp elt gens scope pos) j it acc env) R s := by
  refine codeAny_of_tree ?_
  show wpAny _ _ ((compStart (.ListComp elt gens scope pos) j it acc env).onRaise (fun x => do noteFrame x env; standAt theWindowsPlace)) _ _ s
  refine wpAny_notedAt ?_
  unfold compStart
  have e1 : (clausesOf (.ListComp elt gens scope pos))[j]? = some ⟨tg, iter, ifs, 0⟩ := hj
  rw [e1]
  refine wpAny_bind (wpAny_askSetting (wpAny_ite ?_))
  split
  · exact wpAny_bind (wpAny_pure (wpAny_pure ⟨rfl, h0⟩))
  · exact wpAny_bind (wpAny_rule (wpAny_bind (wpAny_standAt (wpAny_bind (hi _ _ (wpAny_pure ⟨rfl, h0⟩))))))
theorem start_set (hj : gens[j]? = some ⟨tg, iter, ifs, 0⟩) (h0 : codeAny (model prog w) A (.compLoop (.SetComp elt gens scope pos) j it acc env) R s)
    (hi : ∀ (Q : Value → Shared → Prop) (E : Value → Shared → Prop), Q it s → wpAny (model prog w) A (pyIter it) Q E s) : codeAny (model prog w) A (.compStart (.SetComp elt gens scope pos) j it acc env) R s := by
  refine codeAny_of_tree ?_
  show wpAny _ _ ((compStart (.SetComp elt gens scope pos) j it acc env).onRaise (fun x => do noteFrame x env; standAt theWindowsPlace)) _ _ s
  refine wpAny_notedAt ?_
  unfold compStart
  have e1 : (clausesOf (.SetComp elt gens scope pos))[j]? = some ⟨tg, iter, ifs, 0⟩ := hj
  rw [e1]
  refine wpAny_bind (wpAny_askSetting (wpAny_ite ?_))
  split
  · exact wpAny_bind (wpAny_pure (wpAny_pure ⟨rfl, h0⟩))
  · exact wpAny_bind (wpAny_rule (wpAny_bind (wpAny_standAt (wpAny_bind (hi _ _ (wpAny_pure ⟨rfl, h0⟩))))))
theorem start_dict (hj : gens[j]? = some ⟨tg, iter, ifs, 0⟩) (h0 : codeAny (model prog w) A (.compLoop (.DictComp kx vx gens scope pos) j it acc env) R s)
    (hi : ∀ (Q : Value → Shared → Prop) (E : Value → Shared → Prop), Q it s → wpAny (model prog w) A (pyIter it) Q E s) : codeAny (model prog w) A (.compStart (.DictComp kx vx gens scope pos) j it acc env) R s := by
  refine codeAny_of_tree ?_
  show wpAny _ _ ((compStart (.DictComp kx vx gens scope pos) j it acc env).onRaise (fun x => do noteFrame x env; standAt theWindowsPlace)) _ _ s
  refine wpAny_notedAt ?_
  unfold compStart
  have e1 : (clausesOf (.DictComp kx vx gens scope pos))[j]? = some ⟨tg, iter, ifs, 0⟩ := hj
  rw [e1]
  refine wpAny_bind (wpAny_askSetting (wpAny_ite ?_))
  split
  · exact wpAny_bind (wpAny_pure (wpAny_pure ⟨rfl, h0⟩))
  · exact wpAny_bind (wpAny_rule (wpAny_bind (wpAny_standAt (wpAny_bind (hi _ _ (wpAny_pure ⟨rfl, h0⟩))))))
theorem loop_list (hj : gens[j]? = some ⟨tg, iter, ifs, 0⟩) (hn : ∀ g, gens[j + 1]? = some g → g.is_async = 0 ∧ ∀ x, foldedSetIterable g.iter env x = pure x) (I : Nat → Shared → Prop)
    (turn : ∀ n s, I n s → TurnW prog w A (fun _ _ => False) tg ifs it env (RestW prog w A (fun _ _ => False) (.ListComp elt gens scope pos) (emL elt acc env) gens[j + 1]? j acc env) (fun s' => R (.ok .next) s') (fun s' => ∃ m, m < n ∧ I m s') s)
    (n : Nat) (h : I n s) : codeAny (model prog w) A (.compLoop (.ListComp elt gens scope pos) j it acc env) R s := by
  refine codeAny_loop rfl I (fun n s hI => ?_) n h
  show wpAny _ A ((compTurn (.ListComp elt gens scope pos) j it acc env).onRaise (fun x => do noteFrame x env; theTreesLotGoes x)) _ _ s
  refine mm_onRaise (wpAny_mono (turn_list hj hn (turn n s hI)) (fun fin s' hf => ?_) fun _ _ z => z)
  cases fin with
  | done f => obtain ⟨rfl, q⟩ := hf; exact q
  | again c => exact hf
theorem loop_set (hj : gens[j]? = some ⟨tg, iter, ifs, 0⟩) (hn : ∀ g, gens[j + 1]? = some g → g.is_async = 0 ∧ ∀ x, foldedSetIterable g.iter env x = pure x) (I : Nat → Shared → Prop)
    (turn : ∀ n s, I n s → TurnW prog w A (fun _ _ => False) tg ifs it env (RestW prog w A (fun _ _ => False) (.SetComp elt gens scope pos) (emS elt acc env) gens[j + 1]? j acc env) (fun s' => R (.ok .next) s') (fun s' => ∃ m, m < n ∧ I m s') s)
    (n : Nat) (h : I n s) : codeAny (model prog w) A (.compLoop (.SetComp elt gens scope pos) j it acc env) R s := by
  refine codeAny_loop rfl I (fun n s hI => ?_) n h
  show wpAny _ A ((compTurn (.SetComp elt gens scope pos) j it acc env).onRaise (fun x => do noteFrame x env; theTreesLotGoes x)) _ _ s
  refine mm_onRaise (wpAny_mono (turn_set hj hn (turn n s hI)) (fun fin s' hf => ?_) fun _ _ z => z)
  cases fin with
  | done f => obtain ⟨rfl, q⟩ := hf; exact q
  | again c => exact hf
theorem loop_dict (hj : gens[j]? = some ⟨tg, iter, ifs, 0⟩) (hn : ∀ g, gens[j + 1]? = some g → g.is_async = 0 ∧ ∀ x, foldedSetIterable g.iter env x = pure x) (I : Nat → Shared → Prop)
    (turn : ∀ n s, I n s → TurnW prog w A (fun _ _ => False) tg ifs it env (RestW prog w A (fun _ _ => False) (.DictComp kx vx gens scope pos) (emD kx vx acc env) gens[j + 1]? j acc env) (fun s' => R (.ok .next) s') (fun s' => ∃ m, m < n ∧ I m s') s)
    (n : Nat) (h : I n s) : codeAny (model prog w) A (.compLoop (.DictComp kx vx gens scope pos) j it acc env) R s := by
  refine codeAny_loop rfl I (fun n s hI => ?_) n h
  show wpAny _ A ((compTurn (.DictComp kx vx gens scope pos) j it acc env).onRaise (fun x => do noteFrame x env; theTreesLotGoes x)) _ _ s
  refine mm_onRaise (wpAny_mono (turn_dict hj hn (turn n s hI)) (fun fin s' hf => ?_) fun _ _ z => z)
  cases fin with
  | done f => obtain ⟨rfl, q⟩ := hf; exact q
  | again c => exact hf
end
end
end DL

set_option Elab.async false
set_option linter.all false
set_option maxRecDepth 100000
set_option autoImplicit false
set_option maxHeartbeats 1000000
namespace DL
open PySem PySem.Spec PyProof.Rows L2
variable [PWd]
/-- what is made of the items so far -/
structure Mk (K : PySem.W.Frag) where
  ac : Hp → HO → List D → Prop
  mono : ∀ {G G' : Hp} {o : HO} {ds : List D}, Same G G' → ac G o ds → ac G' o ds
  most : Nat
/-- the clauses of a block over data -/
abbrev KF := Env → Store → Option (List D × Store)
def lcLoop (g : GF) (t : TF) (k : KF) (Γw : Env) : List D → Store → Option (List D × Store)
  | [], M => some ([], M)
  | d :: r, M => (g d Γw).bind fun Γ1 => match t Γ1 M with
    | some (.ok true M1) => (k Γ1 M1).bind fun p => (lcLoop g t k Γw r p.2).map fun q => (p.1 ++ q.1, q.2)
    | some (.ok false M1) => lcLoop g t k Γw r M1
    | _ => none
def kElt (fe : EF) : KF := fun Γ M => match fe Γ M with
  | some (.ok (.d y) M') => some ([y], M')
  | _ => none
def kIn (i : IF) (g : GF) (t : TF) (wj : List Nat) (k : KF) : KF := fun Γ M => match i Γ M with
  | some (.ok ds M1) => lcLoop g t k (wipeG Γ wj) ds M1
  | _ => none
section
variable {X : Cx} {Z : Addr → Prop} {Da : Addr} {mk : Mk X.K} {ι ι' : List Addr} {G G' H H' : Hp} {M M' : Store}
/-- behind a part of the block -/
structure Aft (X : Cx) (Z : Addr → Prop) (Da : Addr) (mk : Mk X.K) (pins : List (Addr × Obj)) (σ : L2.St) (ι : List Addr) (G H : Hp) (dn : List D) (M' : Store) (s' : Shared) : Prop where
  ex : ∃ ι' G' H' o, Inv X pins σ H' s' ∧ CRel X.K (Zp Z Da) ι' M' G' H' ∧ Ext Z ι G H ι' G' H' ∧ H' Da = some o ∧ mk.ac G' o dn
/-- a rest of a turn does what k says; it may forget the slots wd -/
def RestOk (X : Cx) (Z : Addr → Prop) (Da : Addr) (mk : Mk X.K) (wd : List Nat) (rest : (Shared → Prop) → Shared → Prop) (k : KF) : Prop :=
  ∀ (pins : List (Addr × Obj)) (s : Shared) (σ : L2.St) (Γ : Env) (M M' : Store) (ι : List Addr) (G H : Hp) (o : HO) (dn ys : List D) (Q : Shared → Prop), Inv X pins σ H s → SR X.K (Zp Z Da) ι M Γ σ G H → H Da = some o → mk.ac G o dn → (dn ++ ys).length ≤ mk.most → k Γ M = some (ys, M') →
    (∀ s' σ', Only wd σ σ' → Aft X Z Da mk pins σ' ι G H (dn ++ ys) M' s' → Q s') → rest Q s
theorem Only.rfl' {σ : L2.St} {ts : List Nat} : Only ts σ σ := ⟨rfl, fun _ _ => rfl⟩
theorem wipe_only {σ : L2.St} {vs : List Nat} : Only vs σ (L2.wipe σ vs) := ⟨L2.wipe_length σ vs, fun j hj => L2.wipe_out hj⟩
theorem Only.trans {σ σ' σ'' : L2.St} {ts us ws : List Nat} (a : Only ts σ σ') (b : Only us σ' σ'') (h1 : ∀ j ∈ ts, j ∈ ws) (h2 : ∀ j ∈ us, j ∈ ws) : Only ws σ σ'' :=
  ⟨b.1.trans a.1, fun j hj => (b.2 j fun z => hj (h2 j z)).trans (a.2 j fun z => hj (h1 j z))⟩
/-- back to the slots at the loop's start -/
theorem Inv.rewipe {pins : List (Addr × Obj)} {σ σ' : L2.St} {vs : List Nat} {s : Shared} (I : Inv X pins σ' H s) (on : Only vs (L2.wipe σ vs) σ') : Inv X pins (L2.wipe σ vs) H s := by
  refine I.weak on.1.symm fun i v e => ?_
  obtain ⟨h1, h2⟩ := L2.wipe_some e
  rw [on.2 i h2]; exact e
theorem loop_ok (hxe : X.xe = fun _ _ => False) (hc : X.calm = true) {e tg : Expr} {ifs : List Expr} {j : Nat} {rest : (Shared → Prop) → Shared → Prop} {g : GF} {t : TF} {k : KF} {ts wd wj : List Nat} {J : It} {fp : List Addr} {it : Addr} {tn : Nat → Heap → Prop} {ds : List D}
    (hk : RestOk X Z Da mk wd rest k) (hg : DG X (Zp Z Da) tg g ts) (ht : DTs X WF (Zp Z Da) ifs t) (w1 : ∀ i ∈ ts, i ∈ wj) (w2 : ∀ i ∈ wd, i ∈ wj)
    (lp : ∀ (R : Result → Shared → Prop) (I : Nat → Shared → Prop), (∀ n s, I n s → TurnW X.prog X.w X.A (fun _ _ => False) tg ifs (.ref it) X.env rest (fun s' => R (.ok .next) s') (fun s' => ∃ m, m < n ∧ I m s') s) → ∀ n s, I n s → codeAny (model X.prog X.w) X.A (.compLoop e j (.ref it) (.ref Da) X.env) R s)
    (T : Turn X.prog X.w X.K tg J fp it tn) {pins : List (Addr × Obj)} {s : Shared} {σ : L2.St} {Γ : Env} {o : HO} {dn ys : List D} (I : Inv X pins σ H s) (sr : SR X.K (Zp Z Da) ι M Γ σ G H) (st : tn 0 s.heap) (hf : ∀ b ∈ fp, FpOk X pins H b) (jo : JOk X.K J G ds)
    (ho : H Da = some o) (ha : mk.ac G o dn) (hl : (dn ++ ys).length ≤ mk.most) (ev : lcLoop g t k (wipeG Γ wj) ds M = some (ys, M')) {R : Result → Shared → Prop} (hR : ∀ s', Aft X Z Da mk pins (L2.wipe σ wj) ι G H (dn ++ ys) M' s' → R (.ok .next) s') :
    codeAny (model X.prog X.w) X.A (.compLoop e j (.ref it) (.ref Da) X.env) R s := by
  obtain ⟨gt, pg, og⟩ := hg
  obtain ⟨tt, pt, ot⟩ := ht
  have nx : ∀ {α : Type} {c : Sem α} {Q : α → Shared → Prop} {s : Shared}, wpAny (model X.prog X.w) X.A c Q X.xe s → wpAny (model X.prog X.w) X.A c Q (fun _ _ => False) s := by rw [hxe]; exact fun h => h
  have Iw : Inv X pins (L2.wipe σ wj) H s := I.weak (L2.wipe_length σ wj) fun i v q => (L2.wipe_some q).1
  refine lp R (fun m s' => ∃ i M1 dn1 rs ι1 G1 H1 o1, m = ds.length - i ∧ i ≤ ds.length ∧ Inv X pins (L2.wipe σ wj) H1 s' ∧ tn i s'.heap ∧ (∀ b ∈ fp, H1 b = none) ∧ CRel X.K (Zp Z Da) ι1 M1 G1 H1 ∧ Ext Z ι G H ι1 G1 H1 ∧ H1 Da = some o1 ∧ mk.ac G1 o1 dn1 ∧
    lcLoop g t k (wipeG Γ wj) (ds.drop i) M1 = some (rs, M') ∧ dn1 ++ rs = dn ++ ys) ?_ ds.length s
    ⟨0, M, dn, ys, ι, G, H, o, by simp, Nat.zero_le _, Iw, st, fun b hb => (hf b hb).1, sr.cr, Ext.refl, ho, ha, by simpa using ev, rfl⟩
  rintro m s1 ⟨i, M1, dn1, rs, ι1, G1, H1, o1, rfl, hi, I1, st1, n1, c1, x1, ho1, ha1, e1, e2⟩
  have fpk : ∀ {H' : Hp}, (∀ b ∈ fp, H' b = none) → ∀ b ∈ fp, FpOk X pins H' b := fun h b hb => ⟨h b hb, (hf b hb).2⟩
  unfold TurnW
  by_cases hlt : i < ds.length
  · refine thnF (T.item X rfl rfl rfl hc i pins s1 _ H1 (fun _ _ => False) I1 (fpk n1) st1 (jo.go i G1 H1 x1.sm c1.sub hlt)) fun r s2 ⟨u, hr, h2⟩ => ?_
    subst hr
    refine thnF h2 fun _ s3 ⟨x, H3, I3, rx, y3, st3, n3⟩ => ?_
    have I3' := I3.pinned (fpk n3) (T.obj _ _ st3)
    obtain ⟨G3, gw, rd3⟩ := jo.yl i G1 H1 x H3 ds[i] x1.sm c1.sub (List.getElem?_eq_getElem hlt) y3
    have x3 : Ext Z ι G H ι1 G3 H3 := x1.trans (c1.growE gw).zp
    have s3' : SR X.K (Zp Z Da) ι1 M1 (wipeG Γ wj) (L2.wipe σ wj) G3 H3 := by
      have q := sr.wipe wj
      exact ⟨c1.grow gw, fun i w h => let ⟨v, a, b⟩ := q.sl i w h; ⟨v, a, x3.rw b⟩, q.lg⟩
    rw [List.drop_eq_getElem_cons hlt] at e1
    unfold lcLoop at e1
    obtain ⟨Γ1, eg, e1⟩ := Option.bind_eq_some_iff.mp e1
    have pins' : ∀ b ∈ fp, ∀ ob, s3.heap.get? b = some ob → ∀ {σ' : L2.St} {H' : Hp} {s' : Shared}, Inv X (pins ++ pinsAt fp s3.heap) σ' H' s' → s'.heap.get? b = some ob ∧ H' b = none := fun b hb ob e {σ' H' s'} I' =>
      let z := I'.pin (b, ob) (List.mem_append_right _ (List.mem_append_right _ (mem_pinsAt hb e)))
      ⟨z.1, z.2.1⟩
    refine thnF (nx (pg.run _ s3 _ H3 x u (fun σ4 H4 => H4 = H3 ∧ SR X.K (Zp Z Da) ι1 M1 Γ1 σ4 G3 H3 ∧ Only ts (L2.wipe σ wj) σ4) I3' rx (og ds[i] x ι1 M1 _ _ G3 H3 Γ1 _ s3' rd3 eg fun σ4 s4 on4 => ⟨rfl, s4, on4⟩))) fun _ s4 ⟨σ4, H4, I4, e4, sr4, on4⟩ => ?_
    subst e4
    -- the turn's end
    have fin : ∀ {s' : Shared} {σ' : L2.St} {ι' : List Addr} {G' H' : Hp} {o' : HO} {M2 : Store} {dn2 rs2 : List D}, Inv X (pins ++ pinsAt fp s3.heap) σ' H' s' → Only wj (L2.wipe σ wj) σ' → CRel X.K (Zp Z Da) ι' M2 G' H' → Ext Z ι G H ι' G' H' → H' Da = some o' → mk.ac G' o' dn2 →
        lcLoop g t k (wipeG Γ wj) (ds.drop (i + 1)) M2 = some (rs2, M') → dn2 ++ rs2 = dn ++ ys →
        ∃ m, m < ds.length - i ∧ ∃ i M1 dn1 rs ι1 G1 H1 o1, m = ds.length - i ∧ i ≤ ds.length ∧ Inv X pins (L2.wipe σ wj) H1 s' ∧ tn i s'.heap ∧ (∀ b ∈ fp, H1 b = none) ∧ CRel X.K (Zp Z Da) ι1 M1 G1 H1 ∧ Ext Z ι G H ι1 G1 H1 ∧ H1 Da = some o1 ∧ mk.ac G1 o1 dn1 ∧
          lcLoop g t k (wipeG Γ wj) (ds.drop i) M1 = some (rs, M') ∧ dn1 ++ rs = dn ++ ys := fun {s' σ' ι' G' H' o' M2 dn2 rs2} I' on' c' x' ho' ha' ev' ed' => by
      refine ⟨ds.length - (i + 1), by omega, i + 1, M2, dn2, rs2, ι', G', H', o', rfl, hlt, (Inv.rewipe I' on').unpinned, T.keep _ _ _ st3 fun b hb ob e => (pins' b hb ob e I').1, fun b hb => ?_, c', x', ho', ha', ev', ed'⟩
      obtain ⟨ob, e, _⟩ := T.obj _ _ st3 b hb
      exact (pins' b hb ob e I').2
    have ho3 : H4 Da = some o1 := gw.h _ _ ho1
    have ha3 : mk.ac G3 o1 dn1 := mk.mono gw.g ha1
    cases z : t Γ1 M1 with
    | none => rw [z] at e1; cases e1
    | some out =>
      rw [z] at e1
      refine thnF (nx (pt.run _ s4 σ4 H4 (fun b H5 => ∃ M5 ι5 G5, out = .ok b M5 ∧ SR X.K (Zp Z Da) ι5 M5 Γ1 σ4 G5 H5 ∧ Ext (Zp Z Da) ι1 G3 H4 ι5 G5 H5) I4 (ot ι1 M1 Γ1 σ4 G3 H4 out _ sr4 z ?_))) fun b s5 ⟨H5, I5, M5, ι5, G5, eo, sr5, x5⟩ => ?_
      · cases out with
        | ok b M5 => exact fun ι5 G5 H5 s5 x5 => ⟨M5, ι5, G5, rfl, s5, x5⟩
        | exc xx M5 => cases e1
      subst eo
      have x4 : Ext Z ι G H ι5 G5 H5 := x3.trans x5.zp
      have ho5 : H5 Da = some o1 := (x5.zs Da (.inr rfl)).trans ho3
      have ha5 : mk.ac G5 o1 dn1 := mk.mono x5.sm ha3
      have on5 : Only wj (L2.wipe σ wj) σ4 := Only.trans on4 (ts := ts) (us := []) Only.rfl' w1 (fun _ z => nomatch z)
      cases b with
      | false =>
        rw [if_neg Bool.false_ne_true]
        exact fin I5 on5 sr5.cr x4 ho5 ha5 e1 e2
      | true =>
        rw [if_pos rfl]
        dsimp only at e1
        obtain ⟨⟨ya, Ma⟩, ek, e1⟩ := Option.bind_eq_some_iff.mp e1
        obtain ⟨⟨yb, Mb⟩, el, e3⟩ := Option.map_eq_some_iff.mp e1
        have e3' : ya ++ yb = rs ∧ Mb = M' := by cases e3; exact ⟨rfl, rfl⟩
        obtain ⟨e3a, e3b⟩ := e3'
        subst e3a e3b
        refine hk _ s5 σ4 Γ1 M5 Ma ι5 G5 H5 o1 dn1 ya _ I5 sr5 ho5 ha5 ?_ ek fun s6 σ6 on6 ⟨ι6, G6, H6, o6, I6, c6, x6, ho6, ha6⟩ => ?_
        · have hz : (dn ++ ys).length = dn1.length + (ya.length + yb.length) := by rw [← e2]; simp
          simp only [List.length_append] at hl hz ⊢
          omega
        · exact fin I6 (Only.trans on4 on6 w1 w2) c6 (x4.trans x6) ho6 ha6 el (by rw [List.append_assoc]; exact e2)
  · have ei : i = ds.length := by omega
    subst ei
    refine thnF (T.done X rfl rfl rfl hc _ pins s1 _ H1 (fun _ _ => False) I1 (fpk n1) st1 (jo.st _ G1 H1 x1.sm c1.sub (Nat.le_refl _))) fun r s2 ⟨hr, I2⟩ => ?_
    subst hr
    rw [List.drop_length] at e1
    unfold lcLoop at e1
    have e1' : rs = [] ∧ M1 = M' := by cases e1; exact ⟨rfl, rfl⟩
    obtain ⟨e1a, e1b⟩ := e1'
    subst e1a e1b
    rw [List.append_nil] at e2
    subst e2
    exact hR s2 ⟨ι1, G1, H1, o1, I2, c1, x1, ho1, ha1⟩
end
end DL

set_option Elab.async false
set_option linter.all false
set_option maxRecDepth 100000
set_option autoImplicit false
set_option maxHeartbeats 1000000
namespace DL
open PySem PySem.Spec PyProof.Rows L2
variable [PWd]
/-! ### keys -/
def keyO : D → Option Key
  | .int i => some (.inl i)
  | .str x => some (.inr x)
  | _ => none
def keysO : List D → Option (List Key)
  | [] => some []
  | d :: r => (keyO d).bind fun k => (keysO r).map (k :: ·)
def kdD : Key → D
  | .inl i => .int i
  | .inr x => .str x
theorem keysO_app {a b : List D} : ∀ {ks js : List Key}, keysO a = some ks → keysO b = some js → keysO (a ++ b) = some (ks ++ js) := by
  induction a with
  | nil => intro ks js h1 h2; cases h1; exact h2
  | cons d a ih =>
    intro ks js h1 h2
    obtain ⟨k, e1, h1⟩ := Option.bind_eq_some_iff.mp h1
    obtain ⟨l, e2, rfl⟩ := Option.map_eq_some_iff.mp h1
    show (keyO d).bind (fun k => (keysO (a ++ b)).map (k :: ·)) = _
    rw [e1, ih e2 h2]
    rfl
def hasK (ks : List Key) (k : Key) : Bool := ks.any fun j => decide (j = k)
def addK (ks : List Key) (k : Key) : List Key := if hasK ks k = true then ks else ks ++ [k]
def setK (ks : List Key) : List Key := ks.foldl addK []
theorem setK_snoc (ks : List Key) (k : Key) : setK (ks ++ [k]) = addK (setK ks) k := by
  unfold setK
  rw [List.foldl_append]
  rfl
theorem hasK_add (ks : List Key) (k j : Key) : hasK (addK ks k) j = (hasK ks j || decide (j = k)) := by
  unfold addK
  by_cases h : hasK ks k = true
  · rw [if_pos h]
    by_cases e : j = k
    · rw [e, h]; rfl
    · rw [decide_eq_false e, Bool.or_false]
  · rw [if_neg h]
    unfold hasK
    rw [List.any_append, List.any_cons, List.any_nil, Bool.or_false]
    congr 1
    by_cases e : j = k
    · rw [decide_eq_true e, decide_eq_true e.symm]
    · rw [decide_eq_false e, decide_eq_false fun z => e z.symm]
theorem addK_len (ks : List Key) (k : Key) : (addK ks k).length = if hasK ks k = true then ks.length else ks.length + 1 := by
  unfold addK
  split
  · rfl
  · simp
theorem foldAddK_len (ks : List Key) : ∀ acc : List Key, (ks.foldl addK acc).length ≤ acc.length + ks.length := by
  induction ks with
  | nil => intro acc; exact Nat.le_refl _
  | cons k ks ih =>
    intro acc
    have h := ih (addK acc k)
    have h2 := addK_len acc k
    rw [List.foldl_cons, List.length_cons]
    split at h2 <;> omega
theorem setK_len (ks : List Key) : (setK ks).length ≤ ks.length := by
  have h := foldAddK_len ks []
  rw [List.length_nil, Nat.zero_add] at h
  exact h
theorem keysO_len {ds : List D} : ∀ {ks : List Key}, keysO ds = some ks → ks.length = ds.length := by
  induction ds with
  | nil => intro ks h; cases h; rfl
  | cons d ds ih =>
    intro ks h
    obtain ⟨k, e1, h⟩ := Option.bind_eq_some_iff.mp h
    obtain ⟨l, e2, rfl⟩ := Option.map_eq_some_iff.mp h
    rw [List.length_cons, List.length_cons, ih e2]
theorem Rep.key {K : PySem.W.Frag} {G : Hp} {v : V} {d : D} {k : Key} (r : Rep K G v d) (h : keyO d = some k) : v = kV k := by
  cases d with
  | int i => cases h; cases r; rfl
  | str x => cases h; cases r; rfl
  | _ => cases h
/-! ### a list, a set, a dict in the making -/
def mkLi (K : PySem.W.Frag) : Mk K where
  ac := fun G o ds => ∃ vs, o = .lst vs ∧ RepL K G vs ds
  mono := fun s ⟨vs, e, r⟩ => ⟨vs, e, r.mono s⟩
  most := sizeLine
def setHO (a : Addr) (ks : List Key) : HO := SetK PWd.P PWd.w a (fun k => hasK ks k) ks.length
def mkSe (K : PySem.W.Frag) (Da : Addr) : Mk K where
  ac := fun _ o ds => ∃ ks, keysO ds = some ks ∧ o = setHO Da (setK ks)
  mono := fun _ h => h
  most := scanBound - 1
/-- the pairs of a dict's items -/
def pairO : D → Option (Key × D)
  | .tup [a, b] => (keyO a).map fun k => (k, b)
  | _ => none
def pairsO : List D → Option (List (Key × D))
  | [] => some []
  | d :: r => (pairO d).bind fun p => (pairsO r).map (p :: ·)
def putD (kvs : List (Key × D)) (k : Key) (v : D) : List (Key × D) := if (kvs.any fun kv => decide (kv.1 = k)) = true then kvs.map (fun kv => if kv.1 = k then (kv.1, v) else kv) else kvs ++ [(k, v)]
def dictD (ps : List (Key × D)) : List (Key × D) := ps.foldl (fun acc p => putD acc p.1 p.2) []
section
variable {K : PySem.W.Frag} {G : Hp}
theorem RepP.any {vs : List (Key × V)} {ds : List (Key × D)} (r : RepP K G vs ds) (k : Key) : (vs.any fun kv => decide (kv.1 = k)) = ds.any fun kv => decide (kv.1 = k) := by
  induction vs generalizing ds with
  | nil => cases r; rfl
  | cons v vs ih => cases r with
    | cons a t => rw [List.any_cons, List.any_cons, ih t]
theorem RepP.append {vs us : List (Key × V)} {ds es : List (Key × D)} (a : RepP K G vs ds) (b : RepP K G us es) : RepP K G (vs ++ us) (ds ++ es) := by
  induction vs generalizing ds with
  | nil => cases a; exact b
  | cons v vs ih => cases a with
    | cons x t => exact .cons x (ih t)
theorem RepP.length {vs : List (Key × V)} {ds : List (Key × D)} (r : RepP K G vs ds) : vs.length = ds.length := by
  induction vs generalizing ds with
  | nil => cases r; rfl
  | cons v vs ih => cases r with
    | cons a t => rw [List.length_cons, List.length_cons, ih t]
theorem RepP.put {vs : List (Key × V)} {ds : List (Key × D)} (r : RepP K G vs ds) (k : Key) {v : V} {d : D} (h : Rep K G v d) : RepP K G (putK vs k v) (putD ds k d) := by
  unfold putK putD
  rw [r.any k]
  split
  · induction vs generalizing ds with
    | nil => cases r; exact .nil
    | cons w vs ih =>
      cases r with
      | @cons k0 v0 _ d0 _ a t =>
        rw [List.map_cons, List.map_cons]
        by_cases e : k0 = k
        · rw [if_pos e, if_pos e]
          refine .cons h ?_
          clear ih
          rename_i vs0 _
          have go : ∀ {vs : List (Key × V)} {ds : List (Key × D)}, RepP K G vs ds → RepP K G (vs.map fun kv => if kv.1 = k then (kv.1, v) else kv) (ds.map fun kv => if kv.1 = k then (kv.1, d) else kv) := by
            intro vs
            induction vs with
            | nil => intro ds r; cases r; exact .nil
            | cons w vs ih =>
              intro ds r
              cases r with
              | @cons k1 v1 _ d1 _ a t =>
                rw [List.map_cons, List.map_cons]
                by_cases e : k1 = k
                · rw [if_pos e, if_pos e]; exact .cons h (ih t)
                · rw [if_neg e, if_neg e]; exact .cons a (ih t)
          exact go t
        · rw [if_neg e, if_neg e]
          refine .cons a ?_
          have go : ∀ {vs : List (Key × V)} {ds : List (Key × D)}, RepP K G vs ds → RepP K G (vs.map fun kv => if kv.1 = k then (kv.1, v) else kv) (ds.map fun kv => if kv.1 = k then (kv.1, d) else kv) := by
            intro vs
            induction vs with
            | nil => intro ds r; cases r; exact .nil
            | cons w vs ih =>
              intro ds r
              cases r with
              | @cons k1 v1 _ d1 _ a t =>
                rw [List.map_cons, List.map_cons]
                by_cases e : k1 = k
                · rw [if_pos e, if_pos e]; exact .cons h (ih t)
                · rw [if_neg e, if_neg e]; exact .cons a (ih t)
          exact go t
  · exact r.append (.cons h .nil)
end
theorem pairsO_app {a b : List D} : ∀ {ks js : List (Key × D)}, pairsO a = some ks → pairsO b = some js → pairsO (a ++ b) = some (ks ++ js) := by
  induction a with
  | nil => intro ks js h1 h2; cases h1; exact h2
  | cons d a ih =>
    intro ks js h1 h2
    obtain ⟨k, e1, h1⟩ := Option.bind_eq_some_iff.mp h1
    obtain ⟨l, e2, rfl⟩ := Option.map_eq_some_iff.mp h1
    show (pairO d).bind (fun k => (pairsO (a ++ b)).map (k :: ·)) = _
    rw [e1, ih e2 h2]
    rfl
def mkDi (K : PySem.W.Frag) : Mk K where
  ac := fun G o ds => ∃ vs ps, o = .dK vs ∧ pairsO ds = some ps ∧ RepP K G vs (dictD ps) ∧ vs.length ≤ ds.length
  mono := fun s ⟨vs, ps, e, h, r, l⟩ => ⟨vs, ps, e, h, r.mono s, l⟩
  most := sizeLine
/-! ### what is emitted -/
section
variable {X : Cx} {Z : Addr → Prop} {Da : Addr} {fe fv : EF} {elt kx vx : Expr}
/-- a pair of a dict -/
def kElt2 (fk fv : EF) : KF := fun Γ M => match fk Γ M with
  | some (.ok (.d y) M1) => (match fv Γ M1 with
    | some (.ok (.d z) M2) => some ([.tup [y, z]], M2)
    | _ => none)
  | _ => none
theorem noxe (hxe : X.xe = fun _ _ => False) {α : Type} {c : Sem α} {Q : α → Shared → Prop} {s : Shared} (h : wpAny (model X.prog X.w) X.A c Q X.xe s) : wpAny (model X.prog X.w) X.A c Q (fun _ _ => False) s := by
  rw [hxe] at h; exact h
/-- a part that gives data -/
theorem eltW (hxe : X.xe = fun _ _ => False) (he : DE X WF (Zp Z Da) elt fe) {pins : List (Addr × Obj)} {s : Shared} {σ : L2.St} {Γ : Env} {M M' : Store} {ι : List Addr} {G H : Hp} {y : D} (I : Inv X pins σ H s) (sr : SR X.K (Zp Z Da) ι M Γ σ G H) (ev : fe Γ M = some (.ok (.d y) M'))
    {Q : Value → Shared → Prop} (q : ∀ v u s' ι' G' H', Inv X pins σ H' s' → SR X.K (Zp Z Da) ι' M' Γ σ G' H' → Ext (Zp Z Da) ι G H ι' G' H' → Rep X.K G' v y → RelV v u → Q u s') : wpAny (model X.prog X.w) X.A (eval elt X.env) Q (fun _ _ => False) s := by
  obtain ⟨te, pe, oe⟩ := he
  refine thnF (noxe hxe (pe.run pins s σ H (fun v H1 => ∃ ι' G', SR X.K (Zp Z Da) ι' M' Γ σ G' H1 ∧ Ext (Zp Z Da) ι G H ι' G' H1 ∧ Rep X.K G' v y) I (oe ι M Γ σ G H _ _ sr ev fun ι' G' H' v s' x' r' => ?_))) fun u s1 ⟨v, H1, I1, ru, ι', G', s', x', r'⟩ => q v u s1 ι' G' H1 I1 s' x' r' ru
  cases r' with
  | d r' => exact ⟨ι', G', s', x', r'⟩
theorem kElt_inv {Γ : Env} {M M' : Store} {ys : List D} (h : kElt fe Γ M = some (ys, M')) : ∃ y, ys = [y] ∧ fe Γ M = some (.ok (.d y) M') := by
  unfold kElt at h
  split at h
  · rename_i y M1 e; cases h; exact ⟨y, rfl, e⟩
  · cases h
/-- .. that are keys, pairs -/
def kChk (c : List D → Bool) (k : KF) : KF := fun Γ M => (k Γ M).bind fun p => if c p.1 = true then some p else none
theorem kChk_inv {c : List D → Bool} {k : KF} {Γ : Env} {M M' : Store} {ys : List D} (h : kChk c k Γ M = some (ys, M')) : k Γ M = some (ys, M') ∧ c ys = true := by
  obtain ⟨p, h1, h2⟩ := Option.bind_eq_some_iff.mp h
  split at h2
  · cases h2; exact ⟨h1, by assumption⟩
  · cases h2
abbrev isKeys (ys : List D) : Bool := (keysO ys).isSome
abbrev isPairs (ys : List D) : Bool := (pairsO ys).isSome
theorem Ext.putDa (nz : ¬ Z Da) {ι ι' : List Addr} {G G' H H' : Hp} (x : Ext (Zp Z Da) ι G H ι' G' H') (o : HO) : Ext Z ι G H ι' G' (upd H' Da o) :=
  ⟨x.pre, x.sm, fun a h => (upd_ne fun z => nz (by rw [← z]; exact h)).trans (x.zs a (.inl h))⟩
theorem emit_list (nz : ¬ Z Da) (hxe : X.xe = fun _ _ => False) (he : DE X WF (Zp Z Da) elt fe) {e : Expr} {j : Nat} : RestOk X Z Da (mkLi X.K) [] (RestW X.prog X.w X.A (fun _ _ => False) e (emL elt (.ref Da) X.env) none j (.ref Da) X.env) (kElt fe) := fun pins s σ Γ M M' ι G H o dn ys Q I sr ho ha hl ev hq => by
  obtain ⟨y, rfl, ew⟩ := kElt_inv ev
  obtain ⟨vs, rfl, rl⟩ := ha
  refine wpAny_bind (eltW hxe he I sr ew fun v u s1 ι1 G1 H1 I1 s1' x1 r1 ru => ?_)
  have h1 : H1 Da = some (.lst vs) := (x1.zs Da (.inr rfl)).trans ho
  have hz : vs.length < sizeLine := by
    rw [List.length_append, List.length_singleton] at hl
    rw [rl.length]; exact hl
  exact wpAny_bind (app_ok I1 h1 hz ru fun s2 I2 => wpAny_pure (hq s2 σ Only.rfl' ⟨ι1, G1, _, _, I2, s1'.cr.put1 _, x1.putDa nz _, upd_same, vs ++ [v], rfl, (rl.mono x1.sm).append (.cons r1 .nil)⟩))
theorem emit_set (nz : ¬ Z Da) (hP : X.prog = PWd.P) (hw : X.w = PWd.w) (hxe : X.xe = fun _ _ => False) (he : DE X WF (Zp Z Da) elt fe) {e : Expr} {j : Nat} :
    RestOk X Z Da (mkSe X.K Da) [] (RestW X.prog X.w X.A (fun _ _ => False) e (emS elt (.ref Da) X.env) none j (.ref Da) X.env) (kChk isKeys (kElt fe)) := fun pins s σ Γ M M' ι G H o dn ys Q I sr ho ha hl ev hq => by
  obtain ⟨ev, hk⟩ := kChk_inv ev
  obtain ⟨ks2, hks2⟩ := Option.isSome_iff_exists.mp hk
  obtain ⟨y, rfl, ew⟩ := kElt_inv ev
  obtain ⟨ks, e1, rfl⟩ := ha
  obtain ⟨kk, e2, e3⟩ := Option.bind_eq_some_iff.mp hks2
  have e4 : ks2 = [kk] := by cases e3; rfl
  subst e4
  refine wpAny_bind (eltW hxe he I sr ew fun v u s1 ι1 G1 H1 I1 s1' x1 r1 ru => ?_)
  refine wpAny_bind (wpAny_standAt ?_)
  have h1 : H1 Da = some (setHO Da (setK ks)) := (x1.zs Da (.inr rfl)).trans ho
  have hz : (setK ks).length + 1 < scanBound := by
    have h2 := setK_len ks
    have h3 := keysO_len e1
    rw [List.length_append, List.length_singleton] at hl
    have h4 : dn.length + 1 ≤ scanBound - 1 := hl
    omega
  have hv := r1.key e2
  subst hv
  refine wpAny_bind (thnF (Q := EP X pins σ fun x H2 => x = .non ∧ H2 = upd H1 Da (setHO Da (setK (ks ++ [kk])))) (noxe hxe (mt_saddK pins s1 σ H1 (.ref Da) [kV kk] (.ref Da) [u] _ I1 rfl (.cons ru .nil) ⟨Da, kk, fun k => hasK (setK ks) k, (setK ks).length, rfl, rfl, ?_, hz, ?_⟩)) fun _ s2 ⟨x, H2, I2, _, _, e5⟩ => ?_)
  · rw [hP, hw]; exact h1
  · refine ⟨rfl, ?_⟩
    rw [hP, hw, setK_snoc]
    unfold setHO
    rw [addK_len, funext fun j => hasK_add (setK ks) kk j]
  · subst e5
    exact wpAny_pure (hq s2 σ Only.rfl' ⟨ι1, G1, _, _, I2, s1'.cr.put1 _, x1.putDa nz _, upd_same, ks ++ [kk], keysO_app e1 hks2, rfl⟩)
theorem kElt2_inv {Γ : Env} {M M' : Store} {ys : List D} (h : kElt2 fe fv Γ M = some (ys, M')) : ∃ y z M1, ys = [.tup [y, z]] ∧ fe Γ M = some (.ok (.d y) M1) ∧ fv Γ M1 = some (.ok (.d z) M') := by
  unfold kElt2 at h
  split at h
  · rename_i y M1 e
    split at h
    · rename_i z M2 e2; cases h; exact ⟨y, z, M1, rfl, e, e2⟩
    · cases h
  · cases h
theorem dictD_snoc (ps : List (Key × D)) (p : Key × D) : dictD (ps ++ [p]) = putD (dictD ps) p.1 p.2 := by
  unfold dictD
  rw [List.foldl_append]
  rfl
theorem emit_dict (nz : ¬ Z Da) (hxe : X.xe = fun _ _ => False) (he : DE X WF (Zp Z Da) kx fe) (hf : DE X WF (Zp Z Da) vx fv) {e : Expr} {j : Nat} :
    RestOk X Z Da (mkDi X.K) [] (RestW X.prog X.w X.A (fun _ _ => False) e (emD kx vx (.ref Da) X.env) none j (.ref Da) X.env) (kChk isPairs (kElt2 fe fv)) := fun pins s σ Γ M M' ι G H o dn ys Q I sr ho ha hl ev hq => by
  obtain ⟨ev, hk⟩ := kChk_inv ev
  obtain ⟨ks2, hks2⟩ := Option.isSome_iff_exists.mp hk
  obtain ⟨y, z, M1, rfl, ew, ev2⟩ := kElt2_inv ev
  obtain ⟨vs, ps, rfl, e1, rp, hle⟩ := ha
  obtain ⟨p, e2, e3⟩ := Option.bind_eq_some_iff.mp hks2
  have e4 : ks2 = [p] := by cases e3; rfl
  subst e4
  obtain ⟨kk, ek, rfl⟩ := Option.map_eq_some_iff.mp (show (keyO y).map (fun k => (k, z)) = some p from e2)
  refine wpAny_bind (eltW hxe he I sr ew fun v u s1 ι1 G1 H1 I1 s1' x1 r1 ru => ?_)
  refine wpAny_bind (wpAny_holding (eltW hxe hf I1 s1' ev2 fun v2 u2 s2 ι2 G2 H2 I2 s2' x2 r2 ru2 => ?_))
  refine wpAny_bind (wpAny_standAt (wpAny_holding ?_))
  have hv := r1.key ek
  subst hv
  have h2 : H2 Da = some (.dK vs) := (x2.zs Da (.inr rfl)).trans ((x1.zs Da (.inr rfl)).trans ho)
  have hz : vs.length < sizeLine := by
    rw [List.length_append, List.length_singleton] at hl
    have : dn.length + 1 ≤ sizeLine := hl
    omega
  refine d_dictSet I2 h2 hz ru ru2 fun s3 I3 => hq s3 σ Only.rfl' ⟨ι2, G2, _, _, I3, s2'.cr.put1 _, (x1.trans x2).putDa nz _, upd_same, _, ps ++ [(kk, z)], rfl, pairsO_app e1 hks2, ?_, ?_⟩
  · rw [dictD_snoc]
    exact ((rp.mono x1.sm).mono x2.sm).put kk r2
  · have := length_putK vs kk v2
    rw [List.length_append, List.length_singleton]
    omega
end
end DL

set_option Elab.async false
set_option linter.all false
set_option maxRecDepth 100000
set_option autoImplicit false
set_option maxHeartbeats 1000000
namespace DL
open PySem PySem.Spec PyProof.Rows L2
variable [PWd]
/-- what is known of a kind of comprehension -/
structure KindOk (X : Cx) (Da : Addr) (e : Expr) (gens : List Comprehension) (em : Sem Unit) : Prop where
  start : ∀ {j : Nat} {tg iter : Expr} {ifs : List Expr} {it : Value} {R : Result → Shared → Prop} {s : Shared}, gens[j]? = some ⟨tg, iter, ifs, 0⟩ → codeAny (model X.prog X.w) X.A (.compLoop e j it (.ref Da) X.env) R s →
    (∀ (Q : Value → Shared → Prop) (E : Value → Shared → Prop), Q it s → wpAny (model X.prog X.w) X.A (pyIter it) Q E s) → codeAny (model X.prog X.w) X.A (.compStart e j it (.ref Da) X.env) R s
  loop : ∀ {j : Nat} {tg iter : Expr} {ifs : List Expr} {it : Value} {R : Result → Shared → Prop}, gens[j]? = some ⟨tg, iter, ifs, 0⟩ → (∀ g, gens[j + 1]? = some g → g.is_async = 0 ∧ ∀ x, foldedSetIterable g.iter X.env x = pure x) → ∀ I : Nat → Shared → Prop,
    (∀ n s, I n s → TurnW X.prog X.w X.A (fun _ _ => False) tg ifs it X.env (RestW X.prog X.w X.A (fun _ _ => False) e em gens[j + 1]? j (.ref Da) X.env) (fun s' => R (.ok .next) s') (fun s' => ∃ m, m < n ∧ I m s') s) →
    ∀ n s, I n s → codeAny (model X.prog X.w) X.A (.compLoop e j it (.ref Da) X.env) R s
section
variable {X : Cx} {Z : Addr → Prop} {Da : Addr} {gens : List Comprehension} {elt kx vx e : Expr} {scope : Scope} {pos : Pos} {em : Sem Unit}
theorem kind_list : KindOk X Da (.ListComp elt gens scope pos) gens (emL elt (.ref Da) X.env) := ⟨fun hj h0 hi => start_list hj h0 hi, fun hj hn I t n s h => loop_list hj hn I t n h⟩
theorem kind_set : KindOk X Da (.SetComp elt gens scope pos) gens (emS elt (.ref Da) X.env) := ⟨fun hj h0 hi => start_set hj h0 hi, fun hj hn I t n s h => loop_set hj hn I t n h⟩
theorem kind_dict : KindOk X Da (.DictComp kx vx gens scope pos) gens (emD kx vx (.ref Da) X.env) := ⟨fun hj h0 hi => start_dict hj h0 hi, fun hj hn I t n s h => loop_dict hj hn I t n h⟩
/-- a further clause -/
theorem inner_ok (hxe : X.xe = fun _ _ => False) (hc : X.calm = true) {mk : Mk X.K} (kd : KindOk X Da e gens em) {j : Nat} {tg iter : Expr} {ifs : List Expr} {i : IF} {g : GF} {t : TF} {k : KF} {ts wd wj : List Nat} (hj : gens[j + 1]? = some ⟨tg, iter, ifs, 0⟩)
    (hn : ∀ g, gens[j + 1 + 1]? = some g → g.is_async = 0 ∧ ∀ x, foldedSetIterable g.iter X.env x = pure x) (hk : RestOk X Z Da mk wd (RestW X.prog X.w X.A (fun _ _ => False) e em gens[j + 1 + 1]? (j + 1) (.ref Da) X.env) k)
    (hi : DI X WF (Zp Z Da) tg iter i) (hg : DG X (Zp Z Da) tg g ts) (ht : DTs X WF (Zp Z Da) ifs t) (w1 : ∀ i ∈ ts, i ∈ wj) (w2 : ∀ i ∈ wd, i ∈ wj) :
    RestOk X Z Da mk wj (RestW X.prog X.w X.A (fun _ _ => False) e em gens[j + 1]? j (.ref Da) X.env) (kIn i g t wj k) := fun pins s σ Γ M M' ι G H o dn ys Q I sr ho ha hl ev hq => by
  rw [hj]
  show InnerW X.prog X.w X.A (fun _ _ => False) e ⟨tg, iter, ifs, 0⟩ j (.ref Da) X.env Q s
  unfold kIn at ev
  split at ev
  · rename_i ds M1 e1
    obtain ⟨wi, pi, oi⟩ := hi
    have h1 := pi.run pins s σ H (fun J H' => ∃ ι' G', SR X.K (Zp Z Da) ι' M1 Γ σ G' H' ∧ Ext (Zp Z Da) ι G H ι' G' H' ∧ JOk X.K J G' ds) I (oi ι M Γ σ G H _ _ sr e1 fun ι' G' H' J s' x' jo => ⟨ι', G', s', x', jo⟩)
    refine thnF (noxe hxe h1) fun v s1 h2 => thnF (noxe hxe h2) fun it1 s2 ⟨it, fp, tn, J, H2, e2, I2, T, tn0, hf, ι', G', s', x', jo⟩ => ?_
    subst e2
    have ho2 : H2 Da = some o := (x'.zs Da (.inr rfl)).trans ho
    have ha2 := mk.mono x'.sm ha
    refine kd.start hj ?_ fun Q E q => T.self _ _ _ _ _ tn0 q
    exact loop_ok hxe hc hk hg ht w1 w2 (fun R I t n s h => kd.loop hj hn I t n s h) T I2 s' tn0 hf jo ho2 ha2 hl ev fun s3 ⟨ι3, G3, H3, o3, I3, c3, x3, ho3, ha3⟩ => hq s3 _ wipe_only ⟨ι3, G3, H3, o3, I3, c3, x'.zp.trans x3, ho3, ha3⟩
  · cases ev
/-- a new thing, empty -/
def NewOk (X : Cx) (new : Sem Value) (o0 : Addr → HO) : Prop :=
  ∀ {pins : List (Addr × Obj)} {s : Shared} {σ : L2.St} {H : Hp} {Q : Value → Shared → Prop} {E : Value → Shared → Prop}, Inv X pins σ H s → (∀ s' : Shared, Inv X pins σ (upd H s.heap.objs.size (o0 s.heap.objs.size)) s' → (∀ b o, s.heap.get? b = some o → s'.heap.get? b = some o) → s.heap.objs.size < s'.heap.objs.size → Q (.ref s.heap.objs.size) s') →
    wpAny (model X.prog X.w) X.A new Q E s
theorem new_list : NewOk X (newList []) fun _ => .lst [] := fun {pins s σ H Q E} I h => by
  refine wpAny_newList ?_ (Nat.zero_le _)
  refine h _ (I.laid (t' := s.toks) (fun b o e => Heap.get?_push_of_some _ e) (Nat.le_refl _) ⟨Nat.zero_le _, [], 0, .nil, Heap.get?_push_size _ rfl⟩) (fun b o e => Heap.get?_push_of_some _ e) ?_
  show _ < (s.heap.push _).objs.size
  rw [Heap.size_push]; exact Nat.lt_succ_self _
theorem new_dict : NewOk X newDict fun _ => .dK [] := fun {pins s σ H Q E} I h => by
  refine wpAny_newObj_type ?_
  refine h _ (I.laid (t' := s.toks) (fun b o e => Heap.get?_push_of_some _ e) (Nat.le_refl _) (dk_empty s.heap I.big)) (fun b o e => Heap.get?_push_of_some _ e) ?_
  show _ < (s.heap.push _).objs.size
  rw [Heap.size_push]; exact Nat.lt_succ_self _
theorem new_set (hP : X.prog = PWd.P) (hw : X.w = PWd.w) : NewOk X (newSet (.type "set")) fun a => setHO a [] := fun {pins s σ H Q E} I h => by
  refine PpSet.newSet_ok ?_
  refine h _ (I.laid (t' := s.toks) (fun b o e => Heap.get?_push_of_some _ e) (Nat.le_refl _) ?_) (fun b o e => Heap.get?_push_of_some _ e) ?_
  · show ObjOk X.prog X.w (upd H s.heap.objs.size (setHO s.heap.objs.size [])) _ s.heap.objs.size (setHO s.heap.objs.size [])
    have z : setHO s.heap.objs.size [] = SetK X.prog X.w s.heap.objs.size (fun _ => false) 0 := by rw [hP, hw]; rfl
    rw [z]
    exact setK_new ⟨_, #[], 0, _, Heap.get?_push_size _ rfl, ⟨rfl, rfl, rfl⟩, rfl, (fun e he => by simp at he), (fun k => by simp), (by decide), (by rfl), rfl⟩
  · show _ < (s.heap.push _).objs.size
    rw [Heap.size_push]; exact Nat.lt_succ_self _
/-! ### the block -/
theorem wipeG_off {Γ : Env} {j : Nat} : ∀ {vs : List Nat}, j ∉ vs → (wipeG Γ vs)[j]? = Γ[j]?
  | [], _ => rfl
  | v :: vs, h => by
    have h1 : v ≠ j := fun e => h (by rw [e]; exact List.mem_cons_self)
    show ((wipeG Γ vs).set v none)[j]? = _
    rw [List.getElem?_set_ne h1]
    exact wipeG_off fun m => h (List.mem_cons_of_mem _ m)
theorem wipeG_len (Γ : Env) : ∀ vs : List Nat, (wipeG Γ vs).length = Γ.length
  | [] => rfl
  | v :: vs => by
    show ((wipeG Γ vs).set v none).length = _
    rw [List.length_set, wipeG_len Γ vs]
theorem wipeG_in {Γ : Env} {j : Nat} (hl : j < Γ.length) : ∀ {vs : List Nat}, j ∈ vs → (wipeG Γ vs)[j]? = some none
  | v :: vs, h => by
    show ((wipeG Γ vs).set v none)[j]? = _
    by_cases e : v = j
    · rw [e, List.getElem?_set_self (by rw [wipeG_len]; exact hl)]
    · rw [List.getElem?_set_ne e]
      exact wipeG_in hl ((List.mem_cons.mp h).resolve_left fun z => e z.symm)
theorem wipeG_idem {Γ : Env} {vs : List Nat} : wipeG (wipeG Γ vs) vs = wipeG Γ vs := by
  refine List.ext_getElem? fun j => ?_
  by_cases hj : j ∈ vs
  · by_cases hl : j < Γ.length
    · rw [wipeG_in (by rw [wipeG_len]; exact hl) hj, wipeG_in hl hj]
    · rw [List.getElem?_eq_none (by rw [wipeG_len, wipeG_len]; omega), List.getElem?_eq_none (by rw [wipeG_len]; omega)]
  · rw [wipeG_off hj]
section
variable {N : List Str} {tg iter : Expr} {ifs : List Expr} {rest : List Comprehension} {own : List (Str × Nat)} {use : Option (Value → Sem Unit)} {Qf : Value → Shared → Prop} {Q : VK} {g : GF} {t : TF} {k : KF} {wd wj ts : List Nat} {wi : TI} {new : Sem Value} {o0 : Addr → HO} {emf : Value → PySem.Env → Sem Unit}
theorem comp_run {pins : List (Addr × Obj)} {s : Shared} {ι : List Addr} {Γ : Env} {σ : L2.St} {G H : Hp} {M2 : Store} {ys : List D} (hc : X.calm = true) (hN : X.N.Nodup) (ok : BlkOk X.N X.env.scope scope own) (hcl : clausesOf e = ⟨tg, iter, ifs, 0⟩ :: rest) (hs : ∀ x, foldedSetIterable iter X.env x = pure x) (I : Inv X pins σ H s)
    (pi : PI X tg iter wi) (mk : Addr → Mk X.K) (nw : NewOk X new o0) (m0 : ∀ G Da, (mk Da).ac G (o0 Da) []) (hw : wj = own.map (·.2))
    {U : Prop} (h : wi σ H fun J H' => U ∧ ∃ ι' G' ds M1, SR X.K Z ι' M1 Γ σ G' H' ∧ Ext Z ι G H ι' G' H' ∧ JOk X.K J G' ds ∧ lcLoop g t k (wipeG Γ wj) ds M1 = some (ys, M2)) (most : ∀ Da, ys.length ≤ (mk Da).most)
    (fin : U → ∀ Da ι' G' H' o, CRel X.K (Zp Z Da) ι' M2 G' H' → Ext Z ι G H ι' G' H' → ¬ Z Da → H' Da = some o → (mk Da).ac G' o ys → Q (.ref Da) H')
    (blk : ∀ (s : Shared) (H0 : Hp) (C : Addr) (cl : List (Str × Addr)) (fp : List Addr) (Da : Addr), ¬ Z Da →
      KindOk (X.blk s H0 scope (compEnvC scope cl C X.env) fp) Da e (⟨tg, iter, ifs, 0⟩ :: rest) (emf (.ref Da) (compEnvC scope cl C X.env)) ∧ RestOk (X.blk s H0 scope (compEnvC scope cl C X.env) fp) Z Da (mk Da) wd (RestW X.prog X.w X.A (fun _ _ => False) e (emf (.ref Da) (compEnvC scope cl C X.env)) rest[0]? 0 (.ref Da) (compEnvC scope cl C X.env)) k ∧
      DG (X.blk s H0 scope (compEnvC scope cl C X.env) fp) (Zp Z Da) tg g ts ∧ DTs (X.blk s H0 scope (compEnvC scope cl C X.env) fp) WF (Zp Z Da) ifs t ∧ ∀ g, rest[0]? = some g → g.is_async = 0 ∧ ∀ x, foldedSetIterable g.iter (compEnvC scope cl C X.env) x = pure x)
    (w1 : ∀ i ∈ ts, i ∈ wj) (w2 : ∀ i ∈ wd, i ∈ wj)
    (hRR : ∀ Da C s' m H', Inv X pins σ H' s' → Q (.ref Da) H' → s'.heap.Ns C m → FpOk X pins H' C → compPost (model X.prog X.w) X.A X.xe use Qf (.ref Da) C (.ok .next) s') {pos' : Pos} :
    wpAny (model X.prog X.w) X.A (comprehension e scope X.env pos' new false (eval iter X.env) use) Qf X.xe s := by
  have hfree : ∀ y ∈ scope.names, y.2 = .free → ∃ c, X.env.cells.lookup y.1 = some c := fun y hy e => I.ok.has _ (ok.free y hy e)
  refine wpAny_comprehension_free (use := use) hcl hs (closure_ok hfree) ok.kind (fun y hy e => by rw [ok.uniq y hy, e]) (thn (pi.run pins s σ H _ I h) fun xv s1 hx => thn hx fun itv s2 h2 => ?_)
  obtain ⟨it, fp, tn, J, H2, e2, I2, T, st2, f2, un, ι1, G1, ds, M1, sr1, x1, jo, ev⟩ := h2
  subst e2
  refine nw I2 fun s3 I3 kp3 lt3 => newEnv_comp ?_
  generalize hD : s2.heap.objs.size = Da at I3 kp3 lt3 ⊢
  have hDn : H2 Da = none := I2.hok.fresh (Nat.le_of_eq hD)
  have nz : ¬ Z Da := fun z => sr1.cr.zh Da z hDn
  have below : ∀ b ∈ fp, b < Da := fun b hb => by
    obtain ⟨o, e, _⟩ := T.obj _ _ st2 b hb
    rw [← hD]; exact Heap.lt_size e
  have f3 : ∀ b ∈ fp, FpOk X pins (upd H2 Da (o0 Da)) b ∧ b < s3.heap.objs.size := fun b hb =>
    ⟨⟨by rw [upd_ne (Nat.ne_of_lt (below b hb))]; exact (f2 b hb).1, (f2 b hb).2⟩, Nat.lt_trans (below b hb) lt3⟩
  have st3 : tn 0 s3.heap := T.keep _ _ _ st2 fun b _ o e => kp3 b o e
  have I4 := block_start I3 ok hN f3
  obtain ⟨kd, hk, hg, ht, hn⟩ := blk s3 (upd H2 Da (o0 Da)) s3.heap.objs.size (cellsFrom (s3.heap.objs.size + 1) scope.names (cloFrom X.env.cells scope.names [])) fp Da nz
  show codeAny _ _ (.compStart e 0 (.ref it) (.ref Da) (compEnvC scope (cellsFrom (s3.heap.objs.size + 1) scope.names (cloFrom X.env.cells scope.names [])) s3.heap.objs.size X.env)) (compPost (model X.prog X.w) X.A X.xe use Qf (.ref Da) s3.heap.objs.size) { s3 with heap := pushCells (s3.heap.push { cls := .type "dict", data := .dict #[] }) scope.names }
  have st4 : tn 0 (pushCells (s3.heap.push { cls := .type "dict", data := .dict #[] }) scope.names) := T.keep _ _ _ st3 fun b _ o e => pushCells_keeps _ _ _ _ (Heap.get?_push_of_some _ e)
  have cb : CRel X.K (Zp Z Da) ι1 M1 G1 (upd H2 Da (o0 Da)) := sr1.cr.hide1 hDn _
  have sb : SR X.K (Zp Z Da) ι1 M1 (wipeG Γ wj) (L2.wipe σ wj) G1 (upd H2 Da (o0 Da)) := by
    have q := sr1.wipe wj
    exact ⟨cb, fun i w h => q.sl i w h, q.lg⟩
  have hww : L2.wipe (L2.wipe σ wj) wj = L2.wipe σ wj := wipe_wipe
  have hwg : wipeG (wipeG Γ wj) wj = wipeG Γ wj := wipeG_idem
  rw [← hw] at I4
  refine kd.start (j := 0) rfl ?_ fun Q E q => T.self _ _ _ _ _ st4 q
  refine loop_ok (X := X.blk s3 (upd H2 Da (o0 Da)) scope (compEnvC scope (cellsFrom (s3.heap.objs.size + 1) scope.names (cloFrom X.env.cells scope.names [])) s3.heap.objs.size X.env) fp) (J := J) (ds := ds) (dn := []) (ys := ys) (σ := L2.wipe σ wj) (Γ := wipeG Γ wj) rfl hc hk hg ht w1 w2 (fun R I t n s h => kd.loop (j := 0) rfl hn I t n s h) T I4 sb st4 (fun b hb => ⟨(f3 b hb).1.1, (I4.ok.exf b hb).1, I4.ok.exfs b hb, .inl hb, fun x c e => (I4.ok.exf b hb).2 x c e, fun p hp => absurd (show p ∈ ([] : List (Addr × Obj)) ++ [] from hp) (by simp)⟩) jo upd_same (m0 _ _) (by simpa using most Da) (by rw [hwg]; exact ev) fun s6 a6 => ?_
  obtain ⟨ι6, G6, H6, o6, I6, c6, x6, ho6, ha6⟩ := a6
  have I7 : Inv X pins σ H6 s6 := I3.call' (ch := fp) I6.os I6.base I6.hok I6.bare fun b hb => ⟨(f3 b hb).1.2.2.2.1, (f3 b hb).1.2.1, (f3 b hb).1.2.2.2.2.1, (f3 b hb).1.2.2.2.2.2⟩
  have nC : H6 s3.heap.objs.size = none := I6.free
  obtain ⟨m, hnm, _⟩ := I6.loc
  have xz : Ext Z ι1 G1 H2 ι6 G6 H6 := ⟨x6.pre, x6.sm, fun a h => (x6.zs a h).trans (upd_ne fun z => nz (by rw [← z]; exact h))⟩
  exact hRR Da s3.heap.objs.size s6 m H6 I7 (fin un Da ι6 G6 H6 o6 c6 (x1.trans xz) nz ho6 ha6) hnm (I3.fpOk (Nat.le_refl _) nC)
end
end
end DL

set_option Elab.async false
set_option linter.all false
set_option maxRecDepth 100000
set_option autoImplicit false
set_option maxHeartbeats 1000000
namespace DL
open PySem PySem.Spec PyProof.Rows L2
variable [PWd]
/-- the kinds -/
inductive Kd where
  | list (elt : Expr) | set (elt : Expr) | dict (kx vx : Expr)
def Kd.ex (kd : Kd) (gens : List Comprehension) (scope : Scope) (pos : Pos) : Expr := match kd with
  | .list elt => .ListComp elt gens scope pos
  | .set elt => .SetComp elt gens scope pos
  | .dict kx vx => .DictComp kx vx gens scope pos
def Kd.em (kd : Kd) (acc : Value) (env : PySem.Env) : Sem Unit := match kd with
  | .list elt => emL elt acc env
  | .set elt => emS elt acc env
  | .dict kx vx => emD kx vx acc env
def Kd.mk (kd : Kd) (K : PySem.W.Frag) (Da : Addr) : Mk K := match kd with
  | .list _ => mkLi K
  | .set _ => mkSe K Da
  | .dict _ _ => mkDi K
def Kd.new (kd : Kd) : Sem Value := match kd with
  | .list _ => newList []
  | .set _ => newSet (.type "set")
  | .dict _ _ => newDict
def Kd.o0 (kd : Kd) (a : Addr) : HO := match kd with
  | .list _ => .lst []
  | .set _ => setHO a []
  | .dict _ _ => .dK []
def Kd.most (kd : Kd) : Nat := match kd with
  | .list _ => sizeLine
  | .set _ => scanBound - 1
  | .dict _ _ => sizeLine
section
variable {P : Program} {w : World} {K : PySem.W.Frag} {mg : Str → Option Value} {base : Heap} {X : Cx} {Z : Addr → Prop} {Da : Addr} {gens : List Comprehension} {scope sc : Scope} {pos : Pos} {N : List Str} {kk : Nat} {elt kx vx tg iter : Expr} {ifs : List Expr} {fe fv : EF} {k : KF} {wd ts : List Nat} {i : IF} {g : GF} {t : TF} {kd : Kd} {j : Nat}
theorem Kd.kind (kd : Kd) : KindOk X Da (kd.ex gens scope pos) gens (kd.em (.ref Da) X.env) := by
  cases kd with
  | list elt => exact kind_list
  | set elt => exact kind_set
  | dict kx vx => exact kind_dict
theorem Kd.newOk (kd : Kd) (hP : X.prog = PWd.P) (hw : X.w = PWd.w) : NewOk X kd.new kd.o0 := by
  cases kd with
  | list elt => exact new_list
  | set elt => exact new_set hP hw
  | dict kx vx => exact new_dict
theorem Kd.m0 (kd : Kd) (G : Hp) (Da : Addr) : (kd.mk K Da).ac G (kd.o0 Da) [] := by
  cases kd with
  | list elt => exact ⟨[], rfl, .nil⟩
  | set elt => exact ⟨[], rfl, rfl⟩
  | dict kx vx => exact ⟨[], [], rfl, rfl, .nil, Nat.le_refl _⟩
theorem Kd.most_eq (kd : Kd) (Da : Addr) : (kd.mk K Da).most = kd.most := by cases kd <;> rfl
/-- the clauses behind the j-th do what k says -/
structure RestC (P : Program) (w : World) (K : PySem.W.Frag) (mg : Str → Option Value) (base : Heap) (N : List Str) (sc scope : Scope) (kk : Nat) (kd : Kd) (gens : List Comprehension) (pos : Pos) (j : Nat) (k : KF) (wd : List Nat) : Prop where
  ok : ∀ (X : Cx) (Z : Addr → Prop) (Da : Addr), Ctx P w K mg base X N (relS scope sc) WF kk → Fx X scope → ¬ Z Da → X.xe = (fun _ _ => False) →
    RestOk X Z Da (kd.mk X.K Da) wd (RestW X.prog X.w X.A (fun _ _ => False) (kd.ex gens scope pos) (kd.em (.ref Da) X.env) gens[j + 1]? j (.ref Da) X.env) k
  hn : ∀ (env : PySem.Env) g, gens[j + 1]? = some g → g.is_async = 0 ∧ ∀ x, foldedSetIterable g.iter env x = pure x
theorem rc_list (he : BlkE P w K mg base N sc scope kk fun X Z => DE X WF Z elt fe) (hj : gens[j + 1]? = none := by rfl) : RestC P w K mg base N sc scope kk (.list elt) gens pos j (kElt fe) [] := by
  refine ⟨fun X Z Da C F nz hxe => ?_, fun env g h => by rw [hj] at h; cases h⟩
  rw [hj]
  exact emit_list nz hxe (he X _ C F)
theorem rc_set (he : BlkE P w K mg base N sc scope kk fun X Z => DE X WF Z elt fe) (hj : gens[j + 1]? = none := by rfl) : RestC P w K mg base N sc scope kk (.set elt) gens pos j (kChk isKeys (kElt fe)) [] := by
  refine ⟨fun X Z Da C F nz hxe => ?_, fun env g h => by rw [hj] at h; cases h⟩
  rw [hj]
  exact emit_set nz (C.hP.trans C.hpP.symm) (C.hw.trans C.hpw.symm) hxe (he X _ C F)
theorem rc_dict (he : BlkE P w K mg base N sc scope kk fun X Z => DE X WF Z kx fe) (hf : BlkE P w K mg base N sc scope kk fun X Z => DE X WF Z vx fv) (hj : gens[j + 1]? = none := by rfl) : RestC P w K mg base N sc scope kk (.dict kx vx) gens pos j (kChk isPairs (kElt2 fe fv)) [] := by
  refine ⟨fun X Z Da C F nz hxe => ?_, fun env g h => by rw [hj] at h; cases h⟩
  rw [hj]
  exact emit_dict nz hxe (he X _ C F) (hf X _ C F)
theorem rc_in (hi : BlkE P w K mg base N sc scope kk fun X Z => DI X WF Z tg iter i) (hg : BlkE P w K mg base N sc scope kk fun X Z => DG X Z tg g ts) (ht : BlkE P w K mg base N sc scope kk fun X Z => DTs X WF Z ifs t)
    (hr : RestC P w K mg base N sc scope kk kd gens pos (j + 1) k wd) (hj : gens[j + 1]? = some ⟨tg, iter, ifs, 0⟩ := by rfl) (hs : ∀ (env : PySem.Env) x, foldedSetIterable iter env x = pure x := by intro _ _; rfl) : RestC P w K mg base N sc scope kk kd gens pos j (kIn i g t (ts ++ wd) k) (ts ++ wd) := by
  refine ⟨fun X Z Da C F nz hxe => ?_, fun env g h => by rw [hj] at h; cases h; exact ⟨rfl, hs env⟩⟩
  exact inner_ok hxe C.calm kd.kind hj (fun g h => hr.hn _ g h) (hr.ok X Z Da C F nz hxe) (hi X _ C F) (hg X _ C F) (ht X _ C F) (fun i h => List.mem_append_left _ h) fun i h => List.mem_append_right _ h
end
/-! ### comprehensions as data, as cells -/
def eComp (i : IF) (g : GF) (t : TF) (wj : List Nat) (k : KF) (fin : List D → Store → Option (Out W)) : EF := fun Γ M => bnd (i Γ M) fun ds M1 => (lcLoop g t k (wipeG Γ wj) ds M1).bind fun p => fin p.1 p.2
def finL : List D → Store → Option (Out W) := fun ys M => if ys.length ≤ sizeLine then some (.ok (.d (.lst ys)) M) else none
def finLC : List D → Store → Option (Out W) := fun ys M => if ys.length ≤ sizeLine then some (.ok (.r M.length) (M ++ [.lst ys])) else none
def finS : List D → Store → Option (Out W) := fun ys M => if ys.length ≤ scanBound - 1 then (keysO ys).map fun ks => .ok (.d (.set (setK ks))) M else none
def finDC : List D → Store → Option (Out W) := fun ys M => if ys.length ≤ sizeLine then (pairsO ys).map fun ps => .ok (.r M.length) (M ++ [.dic (dictD ps)]) else none
/-- what stands at the end -/
def FinOk (kd : Kd) (fin : List D → Store → Option (Out W)) : Prop :=
  ∀ (K : PySem.W.Frag) (Z : Addr → Prop) (Da : Addr) (ι : List Addr) (M : Store) (G H : Hp) (o : HO) (ys : List D) (out : Out W), fin ys M = some out → ys.length ≤ kd.most ∧
    ∃ w M', out = .ok w M' ∧ (CRel K (Zp Z Da) ι M G H → ¬ Z Da → H Da = some o → (kd.mk K Da).ac G o ys → ∃ ι' G', CRel K Z ι' M' G' H ∧ Ext Z ι G H ι' G' H ∧ RW K ι' G' (.ref Da) w)
theorem fin_list {elt : Expr} : FinOk (.list elt) finL := fun K Z Da ι M G H o ys out e => by
  unfold finL at e
  split at e
  · rename_i hz
    cases e
    refine ⟨hz, _, _, rfl, fun c nz ho ⟨vs, eo, rl⟩ => ?_⟩
    subst eo
    obtain ⟨c3, sm⟩ := c.show1 nz ho
    exact ⟨ι, _, c3, ⟨⟨[], by simp⟩, sm, fun _ _ => rfl⟩, .d (.lst upd_same (rl.mono sm))⟩
  · cases e
theorem fin_listC {elt : Expr} : FinOk (.list elt) finLC := fun K Z Da ι M G H o ys out e => by
  unfold finLC at e
  split at e
  · rename_i hz
    cases e
    refine ⟨hz, _, _, rfl, fun c nz ho ⟨vs, eo, rl⟩ => ?_⟩
    subst eo
    exact ⟨_, G, c.cell1 nz ho (CellOk.lst rl) (fun z => nomatch z), ⟨⟨[Da], rfl⟩, Same.refl _, fun _ _ => rfl⟩, .r (by rw [← c.ln]; simp)⟩
  · cases e
theorem fin_set {elt : Expr} : FinOk (.set elt) finS := fun K Z Da ι M G H o ys out e => by
  unfold finS at e
  split at e
  · rename_i hz
    obtain ⟨ks, e1, rfl⟩ := Option.map_eq_some_iff.mp e
    refine ⟨hz, _, _, rfl, fun c nz ho ⟨ks', e2, eo⟩ => ?_⟩
    have e3 : ks = ks' := by rw [e1] at e2; cases e2; rfl
    subst e3
    subst eo
    obtain ⟨c3, sm⟩ := c.show1 nz ho
    exact ⟨ι, _, c3, ⟨⟨[], by simp⟩, sm, fun _ _ => rfl⟩, .d (.set upd_same)⟩
  · cases e
theorem fin_dictC {kx vx : Expr} : FinOk (.dict kx vx) finDC := fun K Z Da ι M G H o ys out e => by
  unfold finDC at e
  split at e
  · rename_i hz
    obtain ⟨ps, e1, rfl⟩ := Option.map_eq_some_iff.mp e
    refine ⟨hz, _, _, rfl, fun c nz ho ⟨vs, ps', eo, e2, rp, _⟩ => ?_⟩
    have e3 : ps = ps' := by rw [e1] at e2; cases e2; rfl
    subst e3
    subst eo
    exact ⟨_, G, c.cell1 nz ho (CellOk.dic rp) (fun z => nomatch z), ⟨⟨[Da], rfl⟩, Same.refl _, fun _ _ => rfl⟩, .r (by rw [← c.ln]; simp)⟩
  · cases e
section
variable {P : Program} {w : World} {K : PySem.W.Frag} {mg : Str → Option Value} {base : Heap} {X : Cx} {Z : Addr → Prop} {rest : List Comprehension} {scope sc : Scope} {pos : Pos} {N : List Str} {kk : Nat} {Wx : WX} {tg iter : Expr} {ifs : List Expr} {k : KF} {wd ts : List Nat} {i : IF} {g : GF} {t : TF} {kd : Kd} {fin : List D → Store → Option (Out W)}
/-- the run, whatever is done with what comes out -/
theorem comp_use (C : Ctx P w K mg base X N sc Wx kk) (hf : FinOk kd fin) (own : List (Str × Nat)) (hi : DI X Wx Z tg iter i) (hg : BlkE P w K mg base N sc scope kk fun X Z => DG X Z tg g ts) (ht : BlkE P w K mg base N sc scope kk fun X Z => DTs X WF Z ifs t)
    (hr : RestC P w K mg base N sc scope kk kd (⟨tg, iter, ifs, 0⟩ :: rest) pos 0 k wd) (ok : blkC N sc scope own = true) (hts : (ts ++ wd).all (fun i => (own.map (·.2)).contains i) = true) (hs : ∀ x, foldedSetIterable iter X.env x = pure x)
    {pins : List (Addr × Obj)} {s : Shared} {σ : L2.St} {Γ : Env} {M : Store} {ι : List Addr} {G H : Hp} {out : Out W} {Q : VK} {use : Option (Value → Sem Unit)} {Qf : Value → Shared → Prop} {pos' : Pos} (I : Inv X pins σ H s) (sr : SR X.K Z ι M Γ σ G H) (e : eComp i g t (own.map (·.2)) k fin Γ M = some out)
    (q : ∀ w M', out = .ok w M' → ∀ ι' G' H' v, SR X.K Z ι' M' Γ σ G' H' → Ext Z ι G H ι' G' H' → RW X.K ι' G' v w → Q v H') (qx : ∀ x M', out = .exc x M' → XPost X Wx Z ι Γ σ G H x M')
    (hRR : ∀ Da C s' m H', Inv X pins σ H' s' → Q (.ref Da) H' → s'.heap.Ns C m → FpOk X pins H' C → compPost (model X.prog X.w) X.A X.xe use Qf (.ref Da) C (.ok .next) s') :
    wpAny (model X.prog X.w) X.A (comprehension (kd.ex (⟨tg, iter, ifs, 0⟩ :: rest) scope pos) scope X.env pos' kd.new false (eval iter X.env) use) Qf X.xe s := by
  obtain ⟨wi, pi, oi⟩ := hi
  have ok' : BlkOk X.N X.env.scope scope own := by rw [C.hN, C.hs]; exact blkOk_by ok
  have hin : ∀ j ∈ ts ++ wd, j ∈ own.map (·.2) := fun j hj => by
    have h := List.all_eq_true.mp hts j hj
    simpa using h
  have blk : ∀ (s : Shared) (H0 : Hp) (Ca : Addr) (cl : List (Str × Addr)) (fp : List Addr) (Da : Addr), ¬ Z Da →
      KindOk (X.blk s H0 scope (compEnvC scope cl Ca X.env) fp) Da (kd.ex (⟨tg, iter, ifs, 0⟩ :: rest) scope pos) (⟨tg, iter, ifs, 0⟩ :: rest) (kd.em (.ref Da) (compEnvC scope cl Ca X.env)) ∧ RestOk (X.blk s H0 scope (compEnvC scope cl Ca X.env) fp) Z Da (kd.mk X.K Da) wd (RestW X.prog X.w X.A (fun _ _ => False) (kd.ex (⟨tg, iter, ifs, 0⟩ :: rest) scope pos) (kd.em (.ref Da) (compEnvC scope cl Ca X.env)) rest[0]? 0 (.ref Da) (compEnvC scope cl Ca X.env)) k ∧
      DG (X.blk s H0 scope (compEnvC scope cl Ca X.env) fp) (Zp Z Da) tg g ts ∧ DTs (X.blk s H0 scope (compEnvC scope cl Ca X.env) fp) WF (Zp Z Da) ifs t ∧ ∀ g, rest[0]? = some g → g.is_async = 0 ∧ ∀ x, foldedSetIterable g.iter (compEnvC scope cl Ca X.env) x = pure x := fun s H0 Ca cl fp Da nz =>
    ⟨kd.kind, hr.ok _ Z Da C.blk Fx.blk nz rfl, hg _ _ C.blk Fx.blk, ht _ _ C.blk Fx.blk, fun g h => hr.hn _ g h⟩
  have hcl : clausesOf (kd.ex (⟨tg, iter, ifs, 0⟩ :: rest) scope pos) = ⟨tg, iter, ifs, 0⟩ :: rest := by cases kd <;> rfl
  rcases bnd_some e with ⟨ds, M1, e1, e2⟩ | ⟨x, M1, e1, rfl⟩
  · obtain ⟨⟨ys, M2⟩, ev, e3⟩ := Option.bind_eq_some_iff.mp e2
    obtain ⟨most, wv, M', eo, hfin⟩ := hf X.K Z 0 [] M2 (fun _ => none) (fun _ => none) (.lst []) ys out e3
    refine comp_run (U := True) (Γ := Γ) (Q := Q) (ys := ys) (M2 := M2) (wi := wi) (emf := kd.em) (Z := Z) (G := G) (H := H) (ι := ι) C.calm (C.hN ▸ C.nd) ok' hcl hs I pi (fun Da => kd.mk X.K Da) (kd.newOk (C.hP.trans C.hpP.symm) (C.hw.trans C.hpw.symm)) kd.m0 rfl (oi ι M Γ σ G H _ _ sr e1 fun ι' G' H' J s' x' jo => ⟨trivial, ι', G', ds, M1, s', x', jo, ev⟩) (fun Da => by rw [kd.most_eq]; exact most) (fun _ Da ι' G' H' o c x nz ho ha => ?_) blk (fun j h => hin j (List.mem_append_left _ h)) (fun j h => hin j (List.mem_append_right _ h)) hRR
    obtain ⟨_, w2, M3, eo2, hfin2⟩ := hf X.K Z Da ι' M2 G' H' o ys out e3
    obtain ⟨ι3, G3, c3, x3, r3⟩ := hfin2 c nz ho ha
    have x4 := x.trans x3
    exact q w2 M3 eo2 ι3 G3 H' _ (sr.at x4 c3) x4 r3
  · exact comp_run (U := False) (Γ := Γ) (Q := Q) (ys := []) (M2 := M) (wi := wi) (emf := kd.em) (Z := Z) (G := G) (H := H) (ι := ι) (g := g) (t := t) (k := k) C.calm (C.hN ▸ C.nd) ok' hcl hs I pi (fun Da => kd.mk X.K Da) (kd.newOk (C.hP.trans C.hpP.symm) (C.hw.trans C.hpw.symm)) kd.m0 rfl (oi ι M Γ σ G H _ _ sr e1 (qx x M1 rfl)) (fun Da => Nat.zero_le _) (fun z => z.elim) blk (fun j h => hin j (List.mem_append_left _ h)) (fun j h => hin j (List.mem_append_right _ h)) hRR
theorem de_comp (hf : FinOk kd fin) (C : Ctx P w K mg base X N sc Wx kk) (own : List (Str × Nat)) (hi : DI X Wx Z tg iter i) (hg : BlkE P w K mg base N sc scope kk fun X Z => DG X Z tg g ts) (ht : BlkE P w K mg base N sc scope kk fun X Z => DTs X WF Z ifs t)
    (hr : RestC P w K mg base N sc scope kk kd (⟨tg, iter, ifs, 0⟩ :: rest) pos 0 k wd) (ok : blkC N sc scope own = true := by decide +kernel) (hts : (ts ++ wd).all (fun i => (own.map (·.2)).contains i) = true := by decide) (hs : ∀ x, foldedSetIterable iter X.env x = pure x := by intro _; rfl) :
    DE X Wx Z (kd.ex (⟨tg, iter, ifs, 0⟩ :: rest) scope pos) (eComp i g t (own.map (·.2)) k fin) := by
  refine ⟨fun σ H Q => ∀ (pins : List (Addr × Obj)) (s : Shared), Inv X pins σ H s → wpAny (model X.prog X.w) X.A (eval (kd.ex (⟨tg, iter, ifs, 0⟩ :: rest) scope pos) X.env) (EP X pins σ Q) X.xe s, ⟨fun pins s σ H Q I h => h pins s I⟩, fun ι M Γ σ G H out Q sr e q pins s I => ?_⟩
  have e0 : eval (kd.ex (⟨tg, iter, ifs, 0⟩ :: rest) scope pos) X.env = comprehension (kd.ex (⟨tg, iter, ifs, 0⟩ :: rest) scope pos) scope X.env (firstIterPos (⟨tg, iter, ifs, 0⟩ :: rest) pos) kd.new false (eval iter X.env) none := by cases kd <;> rfl
  rw [e0]
  refine comp_use (use := none) C hf own hi hg ht hr ok hts hs I sr e (fun w M' eo => by subst eo; exact q) (fun x M' eo => by subst eo; exact q) fun Da Ca s' m H' I' q hn f => ⟨m, hn, fun h'' sb => ?_⟩
  obtain ⟨f0, f1, f2, f3, f4, f5⟩ := f
  exact ⟨.ref Da, H', I'.turned (t' := s'.toks) (fun b o hb e => (sb.2 b hb).trans e) f0 f1 f3 f4 f5, rfl, q⟩
theorem de_lcL {elt : Expr} (C : Ctx P w K mg base X N sc Wx kk) (own : List (Str × Nat)) (hi : DI X Wx Z tg iter i) (hg : BlkE P w K mg base N sc scope kk fun X Z => DG X Z tg g ts) (ht : BlkE P w K mg base N sc scope kk fun X Z => DTs X WF Z ifs t)
    (hr : RestC P w K mg base N sc scope kk (.list elt) (⟨tg, iter, ifs, 0⟩ :: rest) pos 0 k wd) (ok : blkC N sc scope own = true := by decide +kernel) (hts : (ts ++ wd).all (fun i => (own.map (·.2)).contains i) = true := by decide) (hs : ∀ x, foldedSetIterable iter X.env x = pure x := by intro _; rfl) : DE X Wx Z (.ListComp elt (⟨tg, iter, ifs, 0⟩ :: rest) scope pos) (eComp i g t (own.map (·.2)) k finL) := de_comp (kd := .list elt) fin_list C own hi hg ht hr ok hts hs
theorem de_lcLC {elt : Expr} (C : Ctx P w K mg base X N sc Wx kk) (own : List (Str × Nat)) (hi : DI X Wx Z tg iter i) (hg : BlkE P w K mg base N sc scope kk fun X Z => DG X Z tg g ts) (ht : BlkE P w K mg base N sc scope kk fun X Z => DTs X WF Z ifs t)
    (hr : RestC P w K mg base N sc scope kk (.list elt) (⟨tg, iter, ifs, 0⟩ :: rest) pos 0 k wd) (ok : blkC N sc scope own = true := by decide +kernel) (hts : (ts ++ wd).all (fun i => (own.map (·.2)).contains i) = true := by decide) (hs : ∀ x, foldedSetIterable iter X.env x = pure x := by intro _; rfl) : DE X Wx Z (.ListComp elt (⟨tg, iter, ifs, 0⟩ :: rest) scope pos) (eComp i g t (own.map (·.2)) k finLC) := de_comp (kd := .list elt) fin_listC C own hi hg ht hr ok hts hs
theorem de_scS {elt : Expr} (C : Ctx P w K mg base X N sc Wx kk) (own : List (Str × Nat)) (hi : DI X Wx Z tg iter i) (hg : BlkE P w K mg base N sc scope kk fun X Z => DG X Z tg g ts) (ht : BlkE P w K mg base N sc scope kk fun X Z => DTs X WF Z ifs t)
    (hr : RestC P w K mg base N sc scope kk (.set elt) (⟨tg, iter, ifs, 0⟩ :: rest) pos 0 k wd) (ok : blkC N sc scope own = true := by decide +kernel) (hts : (ts ++ wd).all (fun i => (own.map (·.2)).contains i) = true := by decide) (hs : ∀ x, foldedSetIterable iter X.env x = pure x := by intro _; rfl) : DE X Wx Z (.SetComp elt (⟨tg, iter, ifs, 0⟩ :: rest) scope pos) (eComp i g t (own.map (·.2)) k finS) := de_comp (kd := .set elt) fin_set C own hi hg ht hr ok hts hs
theorem de_dcC {kx vx : Expr} (C : Ctx P w K mg base X N sc Wx kk) (own : List (Str × Nat)) (hi : DI X Wx Z tg iter i) (hg : BlkE P w K mg base N sc scope kk fun X Z => DG X Z tg g ts) (ht : BlkE P w K mg base N sc scope kk fun X Z => DTs X WF Z ifs t)
    (hr : RestC P w K mg base N sc scope kk (.dict kx vx) (⟨tg, iter, ifs, 0⟩ :: rest) pos 0 k wd) (ok : blkC N sc scope own = true := by decide +kernel) (hts : (ts ++ wd).all (fun i => (own.map (·.2)).contains i) = true := by decide) (hs : ∀ x, foldedSetIterable iter X.env x = pure x := by intro _; rfl) : DE X Wx Z (.DictComp kx vx (⟨tg, iter, ifs, 0⟩ :: rest) scope pos) (eComp i g t (own.map (·.2)) k finDC) := de_comp (kd := .dict kx vx) fin_dictC C own hi hg ht hr ok hts hs
/-- name = [..] on one line, the name a local -/
theorem sw_kd {gs : List Comprehension} {pos py : Pos} {y : Str} {l : Nat} {env : PySem.Env} (kd : Kd) (hk : env.scope.kind = .function) (hy : env.scope.names.lookup y = some .local) (hl : (py.line == pos.line) = true)
    (ha : (scope.names.any fun (n, k) => n == y && (k == .local || k == .cell)) = false) : swapsWith (kd.ex gs scope pos) (some (.Name y py)) l env = pure true := by
  have ky : env.kindOf y = some .local := hy
  have hb : env.blockKind = .function := by unfold Env.blockKind; rw [hk]; rfl
  cases kd <;>
  · unfold swapsWith Kd.ex
    simp only [hb, ky, ha, Expr.pos, hl]
    rfl
theorem ds_comp (hf : FinOk kd fin) (C : Ctx P w K mg base X N sc Wx kk) (own : List (Str × Nat)) (hi : DI X Wx Z tg iter i) (hg : BlkE P w K mg base N sc scope kk fun X Z => DG X Z tg g ts) (ht : BlkE P w K mg base N sc scope kk fun X Z => DTs X WF Z ifs t)
    (hr : RestC P w K mg base N sc scope kk kd (⟨tg, iter, ifs, 0⟩ :: rest) pos 0 k wd) (ok : blkC N sc scope own = true := by decide +kernel) (hts : (ts ++ wd).all (fun i => (own.map (·.2)).contains i) = true := by decide) {j : Nat} {y : Str} {py spos : Pos} (hj : N[j]? = some y) (hyl : sc.names.lookup y = some .local) (hkf : sc.kind = .function) (hl : (py.line == pos.line) = true)
    (ha : (scope.names.any fun (n, k) => n == y && (k == .local || k == .cell)) = false) (hs : ∀ x, foldedSetIterable iter X.env x = pure x := by intro _; rfl) :
    DS X Wx Z (.Assign [.Name y py] (kd.ex (⟨tg, iter, ifs, 0⟩ :: rest) scope pos) spos) (sSet j (eComp i g t (own.map (·.2)) k fin)) := by
  refine ⟨fun D σ H => ∀ (pins : List (Addr × Obj)) (s : Shared), Inv X pins σ H s → wpAny (model X.prog X.w) X.A (exec (.Assign [.Name y py] (kd.ex (⟨tg, iter, ifs, 0⟩ :: rest) scope pos) spos) X.env) (SP X pins D) X.xe s, ⟨fun pins s σ H D I h => h pins s I⟩, fun ι M Γ σ G H out D sr e q pins s I => ?_⟩
  have hsw : swapsWith (kd.ex (⟨tg, iter, ifs, 0⟩ :: rest) scope pos) (some (.Name y py)) spos.line X.env = pure true := sw_kd kd (by rw [C.hs]; exact hkf) (C.g hyl) hl ha
  have e0 : evalThenUse (kd.ex (⟨tg, iter, ifs, 0⟩ :: rest) scope pos) X.env (assign (.Name y py) X.env) = (do let _ ← comprehension (kd.ex (⟨tg, iter, ifs, 0⟩ :: rest) scope pos) scope X.env (firstIterPos (⟨tg, iter, ifs, 0⟩ :: rest) pos) kd.new false (eval iter X.env) (some (assign (.Name y py) X.env))) := by cases kd <;> rfl
  rw [exec_Assign_Name_used _ _ _ _ hsw, e0]
  refine wpAny_bind (wpAny_standAt (wpAny_bind (wpAny_bind ?_)))
  have main : ∀ o2, eComp i g t (own.map (·.2)) k fin Γ M = some o2 → (∀ w M', o2 = .ok w M' → ∀ ι' G' H' v, SR X.K Z ι' M' Γ σ G' H' → Ext Z ι G H ι' G' H' → RW X.K ι' G' v w → D.nx (σ.set j (some v)) H') → (∀ x M', o2 = .exc x M' → XPost X Wx Z ι Γ σ G H x M') →
      wpAny (model X.prog X.w) X.A (comprehension (kd.ex (⟨tg, iter, ifs, 0⟩ :: rest) scope pos) scope X.env (firstIterPos (⟨tg, iter, ifs, 0⟩ :: rest) pos) kd.new false (eval iter X.env) (some (assign (.Name y py) X.env))) (fun _ s' => SP X pins D .next s') X.xe s := fun o2 e2 q1 q2 => by
    refine comp_use (Q := fun v H1 => D.nx (σ.set j (some v)) H1) (use := some (assign (.Name y py) X.env)) C hf own hi hg ht hr ok hts hs I sr e2 q1 q2 fun Da Ca s' m H' I' q hn f => ?_
    show wpAny _ _ (assign (.Name y py) X.env (.ref Da)) _ _ _
    have hyl' := C.g hyl
    refine wpAny_assign_Name (store_ok2 (v := V.ref Da) I' (C.hN ▸ C.nd) (C.hN ▸ hj) (.inl hyl') rfl (fun s2 I2 ⟨a, sb, ha⟩ => ?_) (.inr hyl'))
    obtain ⟨f0, f1, f2, f3, f4, f5⟩ := f
    have haC : Ca ≠ a := by
      rcases ha with z | z
      · rw [z]; exact f1
      · exact fun e => f4 y a z e.symm
    refine ⟨m, hn.sameBut sb haC, fun h3 sb3 => ?_⟩
    exact ⟨_, H', I2.turned (t' := s2.toks) (fun b o hb e => (sb3.2 b hb).trans e) f0 f1 f3 f4 f5, q⟩
  rcases bndS_some e with ⟨wv, M3, e1, e9⟩ | ⟨x, M3, e1, rfl⟩
  · cases e9
    exact wpAny_mono (main _ e1 (fun w M' eo ι' G' H' v s' x' r' => by cases eo; exact q ι' G' H' _ (s'.set j r') x') fun x M' eo => by cases eo) (fun _ s' hq => wpAny_pure (wpAny_pure hq)) fun _ _ z => z
  · exact wpAny_mono (main _ e1 (fun w M' eo => by cases eo) fun x' M' eo => by cases eo; exact fun ι' G' H' c d s' x' r' => q ι' G' H' σ c d s' x' r') (fun _ s' hq => wpAny_pure (wpAny_pure hq)) fun _ _ z => z
theorem ds_lcL {elt : Expr} (C : Ctx P w K mg base X N sc Wx kk) (own : List (Str × Nat)) (hi : DI X Wx Z tg iter i) (hg : BlkE P w K mg base N sc scope kk fun X Z => DG X Z tg g ts) (ht : BlkE P w K mg base N sc scope kk fun X Z => DTs X WF Z ifs t)
    (hr : RestC P w K mg base N sc scope kk (.list elt) (⟨tg, iter, ifs, 0⟩ :: rest) pos 0 k wd) (ok : blkC N sc scope own = true := by decide +kernel) (hts : (ts ++ wd).all (fun i => (own.map (·.2)).contains i) = true := by decide) {j : Nat} {y : Str} {py spos : Pos} (hj : N[j]? = some y := by rfl) (hyl : sc.names.lookup y = some .local := by rfl) (hkf : sc.kind = .function := by rfl) (hl : (py.line == pos.line) = true := by rfl)
    (ha : (scope.names.any fun (n, k) => n == y && (k == .local || k == .cell)) = false := by decide +kernel) (hs : ∀ x, foldedSetIterable iter X.env x = pure x := by intro _; rfl) :
    DS X Wx Z (.Assign [.Name y py] (.ListComp elt (⟨tg, iter, ifs, 0⟩ :: rest) scope pos) spos) (sSet j (eComp i g t (own.map (·.2)) k finL)) := ds_comp (kd := .list elt) fin_list C own hi hg ht hr ok hts hj hyl hkf hl ha hs
theorem ds_lcLC {elt : Expr} (C : Ctx P w K mg base X N sc Wx kk) (own : List (Str × Nat)) (hi : DI X Wx Z tg iter i) (hg : BlkE P w K mg base N sc scope kk fun X Z => DG X Z tg g ts) (ht : BlkE P w K mg base N sc scope kk fun X Z => DTs X WF Z ifs t)
    (hr : RestC P w K mg base N sc scope kk (.list elt) (⟨tg, iter, ifs, 0⟩ :: rest) pos 0 k wd) (ok : blkC N sc scope own = true := by decide +kernel) (hts : (ts ++ wd).all (fun i => (own.map (·.2)).contains i) = true := by decide) {j : Nat} {y : Str} {py spos : Pos} (hj : N[j]? = some y := by rfl) (hyl : sc.names.lookup y = some .local := by rfl) (hkf : sc.kind = .function := by rfl) (hl : (py.line == pos.line) = true := by rfl)
    (ha : (scope.names.any fun (n, k) => n == y && (k == .local || k == .cell)) = false := by decide +kernel) (hs : ∀ x, foldedSetIterable iter X.env x = pure x := by intro _; rfl) :
    DS X Wx Z (.Assign [.Name y py] (.ListComp elt (⟨tg, iter, ifs, 0⟩ :: rest) scope pos) spos) (sSet j (eComp i g t (own.map (·.2)) k finLC)) := ds_comp (kd := .list elt) fin_listC C own hi hg ht hr ok hts hj hyl hkf hl ha hs
theorem ds_scS {elt : Expr} (C : Ctx P w K mg base X N sc Wx kk) (own : List (Str × Nat)) (hi : DI X Wx Z tg iter i) (hg : BlkE P w K mg base N sc scope kk fun X Z => DG X Z tg g ts) (ht : BlkE P w K mg base N sc scope kk fun X Z => DTs X WF Z ifs t)
    (hr : RestC P w K mg base N sc scope kk (.set elt) (⟨tg, iter, ifs, 0⟩ :: rest) pos 0 k wd) (ok : blkC N sc scope own = true := by decide +kernel) (hts : (ts ++ wd).all (fun i => (own.map (·.2)).contains i) = true := by decide) {j : Nat} {y : Str} {py spos : Pos} (hj : N[j]? = some y := by rfl) (hyl : sc.names.lookup y = some .local := by rfl) (hkf : sc.kind = .function := by rfl) (hl : (py.line == pos.line) = true := by rfl)
    (ha : (scope.names.any fun (n, k) => n == y && (k == .local || k == .cell)) = false := by decide +kernel) (hs : ∀ x, foldedSetIterable iter X.env x = pure x := by intro _; rfl) :
    DS X Wx Z (.Assign [.Name y py] (.SetComp elt (⟨tg, iter, ifs, 0⟩ :: rest) scope pos) spos) (sSet j (eComp i g t (own.map (·.2)) k finS)) := ds_comp (kd := .set elt) fin_set C own hi hg ht hr ok hts hj hyl hkf hl ha hs
theorem ds_dcC {kx vx : Expr} (C : Ctx P w K mg base X N sc Wx kk) (own : List (Str × Nat)) (hi : DI X Wx Z tg iter i) (hg : BlkE P w K mg base N sc scope kk fun X Z => DG X Z tg g ts) (ht : BlkE P w K mg base N sc scope kk fun X Z => DTs X WF Z ifs t)
    (hr : RestC P w K mg base N sc scope kk (.dict kx vx) (⟨tg, iter, ifs, 0⟩ :: rest) pos 0 k wd) (ok : blkC N sc scope own = true := by decide +kernel) (hts : (ts ++ wd).all (fun i => (own.map (·.2)).contains i) = true := by decide) {j : Nat} {y : Str} {py spos : Pos} (hj : N[j]? = some y := by rfl) (hyl : sc.names.lookup y = some .local := by rfl) (hkf : sc.kind = .function := by rfl) (hl : (py.line == pos.line) = true := by rfl)
    (ha : (scope.names.any fun (n, k) => n == y && (k == .local || k == .cell)) = false := by decide +kernel) (hs : ∀ x, foldedSetIterable iter X.env x = pure x := by intro _; rfl) :
    DS X Wx Z (.Assign [.Name y py] (.DictComp kx vx (⟨tg, iter, ifs, 0⟩ :: rest) scope pos) spos) (sSet j (eComp i g t (own.map (·.2)) k finDC)) := ds_comp (kd := .dict kx vx) fin_dictC C own hi hg ht hr ok hts hj hyl hkf hl ha hs
end
end DL

set_option Elab.async false
set_option linter.all false
set_option maxRecDepth 100000
set_option autoImplicit false
set_option maxHeartbeats 1000000
namespace DL
open PySem PySem.Spec PyProof.Rows L2
variable [PWd]
variable {K : PySem.W.Frag} {G G' G'' H H' H'' : Hp} {Z : Addr → Prop} {ι ι' ι'' : List Addr} {M M' : Store} {Γ Γ' : Env} {σ σ' : L2.St}
def valD (kvs : List (Key × D)) (k : Key) : Option D := (kvs.find? fun kv => decide (kv.1 = k)).map (·.2)
theorem RepP.val {vs : List (Key × V)} {ds : List (Key × D)} (r : RepP K G vs ds) (k : Key) : (valD ds k = none ∧ valV vs k = none) ∨ ∃ v d, valD ds k = some d ∧ valV vs k = some v ∧ Rep K G v d := by
  induction vs generalizing ds with
  | nil => cases r; exact .inl ⟨rfl, rfl⟩
  | cons w vs ih =>
    cases r with
    | @cons k0 v0 _ d0 ds0 a t =>
      by_cases e : k0 = k
      · refine .inr ⟨v0, d0, ?_, valV_pos e, a⟩
        unfold valD
        rw [List.find?_cons, decide_eq_true e]
        rfl
      · have h1 : valD ((k0, d0) :: ds0) k = valD ds0 k := by
          unfold valD
          rw [List.find?_cons, decide_eq_false e]
        rw [h1, valV_neg (p := (k0, v0)) e]
        exact ih t
section
variable {P : Program} {w : World} {mg : Str → Option Value} {base : Heap} {Kc : PySem.W.Frag}
variable {X : Cx} {N : List Str} {sc : Scope} {Wx : WX} {k : Nat} {a b c e o : Expr} {es : List Expr} {f g h' : EF} {t u : TF} {af : AF} {pos p apos cpos p2 : Pos} {x name : Str} {id T : String}
theorem room1 (hr : Room k X.A) : X.A.units + 1 < cLine := hu_of hr
/-! ### d[y], y in d, y in a set -/
def ixDic : D → D → Option D
  | .dic kvs, y => (keyO y).bind fun k => valD kvs k
  | _, _ => none
def rIxD : R2 := fun x y H Q => ∃ a v, x = .ref a ∧ DGet H a y (some v) ∧ Q v H
theorem ix_dict (hr : Room k X.A) : IxR X rIxD := by
  intro value slice pins s σ H x y v u Q I rx ry h hs
  obtain ⟨a, z, rfl, g, q⟩ := h
  cases rx
  exact tail_any (dict_typeIs I g) PySem.F.slot_dict_getitem.lookup (d_getItem (room1 hr) I g ry fun w' s' I' rw' => ⟨z, H, I', rw', q⟩) hs
theorem RB.key {v : V} {d : D} {k : Key} (r : RB K G H v d) (h : keyO d = some k) : v = kV k := by
  cases d with
  | int i => cases h; exact r.int
  | str x => cases h; exact r.str
  | _ => cases h
theorem s_ixDic : OpS X rIxD ixDic := fun G H x y a b d Q sm ra rb e q => by
  unfold ixDic at e
  split at e
  · obtain ⟨kk, h1, h2⟩ := Option.bind_eq_some_iff.mp e
    obtain ⟨l, vs, rfl, h3, rp⟩ := ra.asP sm
    rw [rb.key h1]
    rcases rp.val kk with ⟨h4, _⟩ | ⟨v, d', h4, h5, r⟩
    · rw [h4] at h2; cases h2
    · rw [h4] at h2
      cases h2
      exact ⟨l, v, rfl, .inl ⟨vs, kk, h3, rfl, h5.symm⟩, q v G H (Grow.refl sm) r⟩
  · cases e
/-- a subscript of any of these -/
def ixA : D → D → Option D := orD ixD ixDic
theorem de_sub (C : Ctx P w Kc mg base X N sc Wx k) (ha : DE X Wx Z a f) (hb : DE X Wx Z b g) (hs : PlainIx b := by intro _ _; rfl) : DE X Wx Z (.Subscript a b pos) (eOp ixA f g) := by
  obtain ⟨ta, pa, oa⟩ := ha
  obtain ⟨tb, pb, ob⟩ := hb
  exact ⟨_, pe_ix (ix_seq.or (ix_dict C.room)) pa pb hs, EOk_op (OpS.or s_ix s_ixDic) oa ob⟩
/-- y in d -/
def rInDic (neg : Bool) : R2 := fun y x H Q => ∃ a o, x = .ref a ∧ DGet H a y o ∧ Q (.bl (xor neg o.isSome)) H
theorem op_inDic (hr : Room k X.A) : OpR X (compareOp .In) (rInDic false) := by
  intro pins s σ H x y v u Q I rx ry h
  obtain ⟨a, o, rfl, g, q⟩ := h
  cases ry
  rw [Bool.false_xor] at q
  exact d_in (room1 hr) I g rx fun s' I' => ⟨.bl o.isSome, H, I', rfl, q⟩
theorem op_ninDic (hr : Room k X.A) : OpR X (compareOp .NotIn) (rInDic true) := by
  intro pins s σ H x y v u Q I rx ry h
  obtain ⟨a, o, rfl, g, q⟩ := h
  cases ry
  rw [Bool.true_xor] at q
  exact d_notIn (room1 hr) I g rx fun s' I' => ⟨.bl (!o.isSome), H, I', rfl, q⟩
def inDicD (neg : Bool) (y x : D) : Option D := match x with
  | .dic kvs => (keyO y).map fun k => .bl (xor neg (valD kvs k).isSome)
  | _ => none
theorem s_inDic (neg : Bool) : OpS X (rInDic neg) (inDicD neg) := fun G H x y a b d Q sm ra rb e q => by
  unfold inDicD at e
  split at e
  · rename_i kvs
    obtain ⟨kk, h1, rfl⟩ := Option.map_eq_some_iff.mp e
    obtain ⟨l, vs, rfl, h3, rp⟩ := rb.asP sm
    rw [ra.key h1]
    have h5 : (valV vs kk).isSome = (valD kvs kk).isSome := by
      rcases rp.val kk with ⟨h4, h5⟩ | ⟨v, d', h4, h5, r⟩
      · rw [h4, h5]; rfl
      · rw [h4, h5]; rfl
    exact ⟨l, _, rfl, .inl ⟨vs, kk, h3, rfl, rfl⟩, by rw [h5]; exact q _ G H (Grow.refl sm) (.bl _)⟩
  · cases e
/-- y in a set -/
def rInSet (neg : Bool) : R2 := fun y x H Q => ∃ a kk ks, x = .ref a ∧ y = kV kk ∧ H a = some (setHO a ks) ∧ Q (.bl (xor neg (hasK ks kk))) H
theorem op_inSet (hP : X.prog = PWd.P) (hw : X.w = PWd.w) : OpR X (compareOp .In) (rInSet false) := by
  intro pins s σ H x y v u Q I rx ry h
  obtain ⟨a, kk, ks, rfl, rfl, ha, q⟩ := h
  cases ry
  rw [Bool.false_xor] at q
  unfold setHO at ha
  rw [← hP, ← hw] at ha
  exact wpAny_inSet_of (kV_is rx) (key_scan rx) (setK_get I ha) ⟨.bl _, H, I.tok _, rfl, q⟩
theorem op_ninSet (hP : X.prog = PWd.P) (hw : X.w = PWd.w) : OpR X (compareOp .NotIn) (rInSet true) := by
  intro pins s σ H x y v u Q I rx ry h
  obtain ⟨a, kk, ks, rfl, rfl, ha, q⟩ := h
  cases ry
  rw [Bool.true_xor] at q
  unfold setHO at ha
  rw [← hP, ← hw] at ha
  exact wpAny_notInSet_of (kV_is rx) (key_scan rx) (setK_get I ha) ⟨.bl _, H, I.tok _, rfl, q⟩
theorem RB.asK (s : Same G H) {v : V} {ks : List Key} (r : RB K G H v (.set ks)) : ∃ a, v = .ref a ∧ H a = some (setHO a ks) := by
  cases r with
  | rep r => cases r with
    | set h => exact ⟨_, rfl, s _ _ h⟩
def inSetD (neg : Bool) (y x : D) : Option D := match x with
  | .set ks => (keyO y).map fun k => .bl (xor neg (hasK ks k))
  | _ => none
theorem s_inSet (neg : Bool) : OpS X (rInSet neg) (inSetD neg) := fun G H x y a b d Q sm ra rb e q => by
  unfold inSetD at e
  split at e
  · obtain ⟨kk, h1, rfl⟩ := Option.map_eq_some_iff.mp e
    obtain ⟨l, rfl, h3⟩ := rb.asK sm
    exact ⟨l, kk, _, rfl, ra.key h1, h3, q _ G H (Grow.refl sm) (.bl _)⟩
  · cases e
def inA : D → D → Option D := orD (orD inStrD (inSqD false)) (orD (inDicD false) (inSetD false))
def ninA : D → D → Option D := orD (orD notInStrD (inSqD true)) (orD (inDicD true) (inSetD true))
theorem de_in (C : Ctx P w Kc mg base X N sc Wx k) (ha : DE X Wx Z a f) (hb : DE X Wx Z b g) (hm : behindInMarks .In b = false := by first | exact nomark _ | rfl) : DE X Wx Z (.Compare a [.In] [b] pos) (eOp inA f g) :=
  de_cmp (OpR.or (OpR.or op_in_str (op_inG C.room)) (OpR.or (op_inDic C.room) (op_inSet (C.hP.trans C.hpP.symm) (C.hw.trans C.hpw.symm)))) (OpS.or (OpS.or s_inStr (s_inSq false)) (OpS.or (s_inDic false) (s_inSet false))) ha hb hm
theorem de_nin (C : Ctx P w Kc mg base X N sc Wx k) (ha : DE X Wx Z a f) (hb : DE X Wx Z b g) (hm : behindInMarks .NotIn b = false := by first | exact nomark _ | rfl) : DE X Wx Z (.Compare a [.NotIn] [b] pos) (eOp ninA f g) :=
  de_cmp (OpR.or (OpR.or op_notin_str (op_ninG C.room)) (OpR.or (op_ninDic C.room) (op_ninSet (C.hP.trans C.hpP.symm) (C.hw.trans C.hpw.symm)))) (OpS.or (OpS.or s_notInStr (s_inSq true)) (OpS.or (s_inDic true) (s_inSet true))) ha hb hm
theorem dt_in (C : Ctx P w Kc mg base X N sc Wx k) (ha : DE X Wx Z a f) (hb : DE X Wx Z b g) (hm : behindInMarks .In b = false := by first | exact nomark _ | rfl) : DT X Wx Z (.Compare a [.In] [b] pos) (tBl (eOp inA f g)) :=
  dt_cmp (OpR.or (OpR.or op_in_str (op_inG C.room)) (OpR.or (op_inDic C.room) (op_inSet (C.hP.trans C.hpP.symm) (C.hw.trans C.hpw.symm)))) (OpS.or (OpS.or s_inStr (s_inSq false)) (OpS.or (s_inDic false) (s_inSet false))) ha hb hm
theorem dt_nin (C : Ctx P w Kc mg base X N sc Wx k) (ha : DE X Wx Z a f) (hb : DE X Wx Z b g) (hm : behindInMarks .NotIn b = false := by first | exact nomark _ | rfl) : DT X Wx Z (.Compare a [.NotIn] [b] pos) (tBl (eOp ninA f g)) :=
  dt_cmp (OpR.or (OpR.or op_notin_str (op_ninG C.room)) (OpR.or (op_ninDic C.room) (op_ninSet (C.hP.trans C.hpP.symm) (C.hw.trans C.hpw.symm)))) (OpS.or (OpS.or s_notInStr (s_inSq true)) (OpS.or (s_inDic true) (s_inSet true))) ha hb hm
/-! ### + - * < .. == in short -/
theorem de_add (ha : DE X Wx Z a f) (hb : DE X Wx Z b g) : DE X Wx Z (.BinOp a .Add b pos) (eOp addD f g) := de_op op_addG s_add ha hb
theorem de_minus (ha : DE X Wx Z a f) (hb : DE X Wx Z b g) : DE X Wx Z (.BinOp a .Sub b pos) (eOp subD f g) := de_op op_sub s_sub ha hb
theorem de_fdiv (ha : DE X Wx Z a f) (hb : DE X Wx Z b g) : DE X Wx Z (.BinOp a .FloorDiv b pos) (eOp divD f g) := de_op op_fdivW s_div ha hb
theorem de_mod (ha : DE X Wx Z a f) (hb : DE X Wx Z b g) : DE X Wx Z (.BinOp a .Mod b pos) (eOp modD f g) := de_op op_mod s_mod ha hb
theorem de_pow (ha : DE X Wx Z a f) (hb : DE X Wx Z b g) : DE X Wx Z (.BinOp a .Pow b pos) (eOp powD f g) := de_op op_powX s_pow ha hb
theorem de_neg (ha : DE X Wx Z a f) : DE X Wx Z (.UnaryOp .USub a pos) (eUn negD f) := de_un un_neg s_neg ha
theorem de_lt (ha : DE X Wx Z a f) (hb : DE X Wx Z b g) : DE X Wx Z (.Compare a [.Lt] [b] pos) (eOp ltD f g) := de_cmp op_lt opS_cmp ha hb (nomark _)
theorem de_le (ha : DE X Wx Z a f) (hb : DE X Wx Z b g) : DE X Wx Z (.Compare a [.LtE] [b] pos) (eOp leD f g) := de_cmp op_le opS_cmp ha hb (nomark _)
theorem de_gt (ha : DE X Wx Z a f) (hb : DE X Wx Z b g) : DE X Wx Z (.Compare a [.Gt] [b] pos) (eOp gtD f g) := de_cmp op_gt opS_cmp ha hb (nomark _)
theorem de_ge (ha : DE X Wx Z a f) (hb : DE X Wx Z b g) : DE X Wx Z (.Compare a [.GtE] [b] pos) (eOp geD f g) := de_cmp op_ge opS_cmp ha hb (nomark _)
theorem de_eq (C : Ctx P w Kc mg base X N sc Wx k) (ha : DE X Wx Z a f) (hb : DE X Wx Z b g) : DE X Wx Z (.Compare a [.Eq] [b] pos) (eOp eqOp f g) := de_cmp (op_eqG C.room) s_eq ha hb (nomark _)
theorem de_ne (C : Ctx P w Kc mg base X N sc Wx k) (ha : DE X Wx Z a f) (hb : DE X Wx Z b g) : DE X Wx Z (.Compare a [.NotEq] [b] pos) (eOp neOp f g) := de_cmp (op_neG C.room) s_ne ha hb (nomark _)
theorem de_is (ha : DE X Wx Z a f) (hb : DE X Wx Z b g) : DE X Wx Z (.Compare a [.Is] [b] pos) (eOp isND f g) := de_cmp op_isN s_isN ha hb (nomark _)
theorem de_isn (ha : DE X Wx Z a f) (hb : DE X Wx Z b g) : DE X Wx Z (.Compare a [.IsNot] [b] pos) (eOp notND f g) := de_cmp op_notN s_notN ha hb (nomark _)
theorem dt_lt (ha : DE X Wx Z a f) (hb : DE X Wx Z b g) : DT X Wx Z (.Compare a [.Lt] [b] pos) (tBl (eOp ltD f g)) := dt_cmp op_lt opS_cmp ha hb (nomark _)
theorem dt_le (ha : DE X Wx Z a f) (hb : DE X Wx Z b g) : DT X Wx Z (.Compare a [.LtE] [b] pos) (tBl (eOp leD f g)) := dt_cmp op_le opS_cmp ha hb (nomark _)
theorem dt_gt (ha : DE X Wx Z a f) (hb : DE X Wx Z b g) : DT X Wx Z (.Compare a [.Gt] [b] pos) (tBl (eOp gtD f g)) := dt_cmp op_gt opS_cmp ha hb (nomark _)
theorem dt_ge (ha : DE X Wx Z a f) (hb : DE X Wx Z b g) : DT X Wx Z (.Compare a [.GtE] [b] pos) (tBl (eOp geD f g)) := dt_cmp op_ge opS_cmp ha hb (nomark _)
theorem dt_eq (C : Ctx P w Kc mg base X N sc Wx k) (ha : DE X Wx Z a f) (hb : DE X Wx Z b g) : DT X Wx Z (.Compare a [.Eq] [b] pos) (tBl (eOp eqOp f g)) := dt_cmp (op_eqG C.room) s_eq ha hb (nomark _)
theorem dt_ne (C : Ctx P w Kc mg base X N sc Wx k) (ha : DE X Wx Z a f) (hb : DE X Wx Z b g) : DT X Wx Z (.Compare a [.NotEq] [b] pos) (tBl (eOp neOp f g)) := dt_cmp (op_neG C.room) s_ne ha hb (nomark _)
theorem dt_is (ha : DE X Wx Z a f) (hb : DE X Wx Z b g) : DT X Wx Z (.Compare a [.Is] [b] pos) (tBl (eOp isND f g)) := dt_cmp op_isN s_isN ha hb (nomark _)
theorem dt_isn (ha : DE X Wx Z a f) (hb : DE X Wx Z b g) : DT X Wx Z (.Compare a [.IsNot] [b] pos) (tBl (eOp notND f g)) := dt_cmp op_notN s_notN ha hb (nomark _)
/-! ### * -/
def mulTup : D → D → Option D
  | .tup a, .int n => if small63 n = true ∧ a.length * n.toNat ≤ sizeLine ∧ 1 < n then some (.tup (repsD n a)) else none
  | _, _ => none
def mulD : D → D → Option D := orD (intOp mulC fun i j => i * j) mulLst
end
/-! ### len -/
section
variable {P : Program} {w : World} {mg : Str → Option Value} {base : Heap} {Kc : PySem.W.Frag} {X : Cx} {N : List Str} {sc : Scope} {Wx : WX} {k : Nat} {e : Expr} {af : AF} {pos p : Pos} {id : String}
theorem CallR.or {f : Value} {r r' : List V → Hp → VK → Prop} (h : CallR X f r) (h' : CallR X f r') : CallR X f (fun xs H Q => r xs H Q ∨ r' xs H Q) := by
  intro pins s σ H xs us Q I r q
  rcases q with q | q
  · exact h pins s σ H xs us Q I r q
  · exact h' pins s σ H xs us Q I r q
def orC (h h' : List D → Option D) : List D → Option D := fun a => match h a with
  | some d => some d
  | none => h' a
theorem CallS.or {r r' : List V → Hp → VK → Prop} {h h' : List D → Option D} (s : CallS X r h) (s' : CallS X r' h') : CallS X (fun xs H Q => r xs H Q ∨ r' xs H Q) (orC h h') := fun G H xs as d Q sm rx e q => by
  unfold orC at e
  cases z : h as with
  | some d' => rw [z] at e; cases e; exact .inl (s G H xs as d Q sm rx z q)
  | none => rw [z] at e; exact .inr (s' G H xs as d Q sm rx e q)
def lenDic : List D → Option D
  | [.dic kvs] => some (.int kvs.length)
  | _ => none
def rLenDic : List V → Hp → VK → Prop := fun xs H Q => ∃ a kvs, xs = [V.ref a] ∧ Rd H a (.dK kvs) ∧ Q (.int kvs.length) H
theorem call_lenDic : CallR X (.builtin "len") rLenDic := by
  intro pins s σ H xs us Q I r h
  obtain ⟨a, kvs, rfl, ha, q⟩ := h
  obtain ⟨u, rfl, ru⟩ := vals1 r
  cases ru
  exact d_len I ha fun t s' I' => ⟨.int kvs.length, H, I', ⟨t, rfl⟩, q⟩
theorem s_lenDic : CallS X rLenDic lenDic := fun G H xs as d Q sm rx e q => by
  unfold lenDic at e
  split at e
  · cases e
    obtain ⟨v, rfl, r⟩ := rb1 rx
    obtain ⟨l, vs, rfl, h1, rp⟩ := r.asP sm
    exact ⟨l, vs, rfl, h1, by rw [rp.length]; exact q _ G H (Grow.refl sm) (.int _)⟩
  · cases e
def lenSet : List D → Option D
  | [.set ks] => some (.int ks.length)
  | _ => none
def rLenSet : List V → Hp → VK → Prop := fun xs H Q => ∃ a ks, xs = [V.ref a] ∧ H a = some (setHO a ks) ∧ Q (.int ks.length) H
theorem call_lenSet (hP : X.prog = PWd.P) (hw : X.w = PWd.w) : CallR X (.builtin "len") rLenSet := by
  intro pins s σ H xs us Q I r h
  obtain ⟨a, ks, rfl, ha, q⟩ := h
  obtain ⟨u, rfl, ru⟩ := vals1 r
  cases ru
  unfold setHO at ha
  rw [← hP, ← hw] at ha
  obtain ⟨o, es, ep, t, ho, hex, hd, _, _, hb, hf, hn⟩ := setK_get I ha
  refine PySem.call_len_set ho hex hd hf ?_ ⟨.int ks.length, H, I.tok _, ⟨s.toks + 1, by rw [hn]⟩, q⟩
  have : scanBound ≤ 2 ^ 62 := by decide
  omega
theorem s_lenSet : CallS X rLenSet lenSet := fun G H xs as d Q sm rx e q => by
  unfold lenSet at e
  split at e
  · cases e
    obtain ⟨v, rfl, r⟩ := rb1 rx
    obtain ⟨l, rfl, h1⟩ := r.asK sm
    exact ⟨l, _, rfl, h1, q _ G H (Grow.refl sm) (.int _)⟩
  · cases e
def lenA : List D → Option D := orC lenD (orC lenDic lenSet)
theorem de_len (C : Ctx P w Kc mg base X N sc Wx k) (hm : mg "len" = none) (ha : DA X Wx Z [e] af) (hg : sc.names.lookup ("len" : Str) = some .globalImplicit := by rfl) (he : starEach [e] X.env = (false, eval e X.env) :: starEach [] X.env := by rfl) (hpl : (backTo pos (starEach [] X.env)).any (·.1) = false := by rfl) :
    DE X Wx Z (.Call (.Name "len" p) [e] [] pos) (eCall lenA af) :=
  de_bif C (CallR.or call_len (CallR.or call_lenDic (call_lenSet (C.hP.trans C.hpP.symm) (C.hw.trans C.hpw.symm)))) (CallS.or s_len (CallS.or s_lenDic s_lenSet)) hm ha boot_len hg (by decide) (by decide) he hpl
end
end DL

set_option Elab.async false
set_option linter.all false
set_option maxRecDepth 100000
set_option autoImplicit false
set_option maxHeartbeats 1000000
namespace DL
open PySem PySem.Spec PyProof.Rows L2
variable [PWd]
variable {K : PySem.W.Frag} {G G' G'' H H' H'' : Hp} {Z : Addr → Prop} {ι ι' ι'' : List Addr} {M M' : Store} {Γ Γ' : Env} {σ σ' : L2.St}
section
variable {P : Program} {w : World} {mg : Str → Option Value} {base : Heap} {Kc : PySem.W.Frag}
variable {X : Cx} {N : List Str} {sc : Scope} {Wx : WX} {k : Nat} {a b c e o i : Expr} {es : List Expr} {f g h' fi fo fv : EF} {t u : TF} {af : AF} {pos p apos cpos p2 pos' : Pos} {x name : Str} {id T : String}
/-! ### what a part made and nobody holds is forgotten -/
def eTrim (f : EF) : EF := fun Γ M => match f Γ M with
  | some (.ok (.d d) M') => some (.ok (.d d) (M'.take M.length))
  | some (.exc x M') => some (.exc x (M'.take M.length))
  | _ => none
theorem de_trim (ha : DE X Wx Z e f) : DE X Wx Z e (eTrim f) := by
  obtain ⟨ta, pa, oa⟩ := ha
  refine ⟨ta, pa, fun ι M Γ σ G H out Q s e q => ?_⟩
  unfold eTrim at e
  cases z : f Γ M with
  | none => rw [z] at e; cases e
  | some o =>
    rw [z] at e
    refine oa ι M Γ σ G H o Q s z ?_
    cases o with
    | ok w M' =>
      cases w with
      | r _ => cases e
      | d d =>
        cases e
        intro ι' G' H' v s' x' r'
        obtain ⟨s2, x2⟩ := s.cut x' s'.cr
        cases r' with
        | d r' => exact q ι G' H' v s2 x2 (.d r')
    | exc xx M' =>
      cases e
      intro ι' G' H' c d s' x' r'
      obtain ⟨s2, x2⟩ := s.cut x' s'.cr
      exact q ι G' H' c d s2 x2 r'
/-! ### * -/
theorem s_mulI : OpS X (rI CMulX fun i j => .int (i * j)) (intOp mulC fun i j => i * j) := opS_int fun i j h => by
  unfold mulC at h
  show (Builtin.Int.intBits i : Int) + (Builtin.Int.intBits j : Int) ≤ 134217728
  exact of_decide_eq_true h
def mulT : D → D → Option D
  | .tup a, .int n => if a ≠ [] ∧ 2 ≤ n ∧ n ≤ 1000 ∧ a.length ≤ 1000 then some (.tup (repsD n a)) else none
  | _, _ => none
theorem s_mulT : OpS X (rRepT X.K) mulT := fun G H x y a b d Q sm ra rb e q => by
  unfold mulT at e
  split at e
  · split at e
    · rename_i as n hz
      cases e
      obtain ⟨l, vs, rfl, g1, h1, r1⟩ := asT_full sm ra
      rw [rb.int]
      refine ⟨l, n, vs, rfl, rfl, h1, fun z => hz.1 (r1.nil_iff.mp z), hz.2.1, hz.2.2.1, by rw [r1.length]; exact hz.2.2.2, fun p hp => ?_⟩
      have gw := Grow.one (o := .tup (List.replicate n.toNat vs).flatten) sm hp
      exact q _ _ _ gw (.tup (SqT.of upd_same) ((r1.rep _).mono gw.g))
    · cases e
  · cases e
def mulA : D → D → Option D := orD (intOp mulC fun i j => i * j) (orD mulLst mulT)
theorem de_mul (ha : DE X Wx Z a f) (hb : DE X Wx Z b g) : DE X Wx Z (.BinOp a .Mult b pos) (eOp mulA f g) := de_op (OpR.or op_mulX (OpR.or op_rep op_repT)) (OpS.or s_mulI (OpS.or s_mulLst s_mulT)) ha hb
/-! ### x[i] = v -/
def putC : Cell → D → D → Option Cell
  | .lst ds, .int z, d => (ixN ds.length z).map fun j => .lst (ds.set j d)
  | .dic kvs, y, d => (keyO y).bind fun kk => if kvs.length < sizeLine then some (.dic (putD kvs kk d)) else none
  | _, _, _ => none
def sPut (fv fo fi : EF) : SF := fun Γ M => bndS Γ (fv Γ M) fun w M1 => bndS Γ (fo Γ M1) fun o M2 => bndS Γ (fi Γ M2) fun y M3 => match w, o with
  | .d d, .r c => (rd M3 y).bind fun dy => (M3[c]?).bind fun cell => (putC cell dy d).map fun cell' => .nx Γ (M3.set c cell')
  | _, _ => none
def rPut : V → V → V → Hp → (Hp → Prop) → Prop := fun o i v H Q => rSetL o i v H Q ∨ ∃ a H', o = .ref a ∧ DPut H a i v H' ∧ Q H'
theorem put_ok (hr : Room k X.A) : PSet X rPut := by
  intro pins s σ H o i v ov iv u Q I ro ri rv h
  rcases h with h | ⟨a, H', rfl, g, q⟩
  · exact set_list pins s σ H o i v ov iv u Q I ro ri rv h
  · cases ro
    exact d_setItem (room1 hr) I g ri rv fun s' I' => ⟨H', I', q⟩
theorem cell_dic {a : Addr} {o : Option HO} {ds : List (Key × D)} (ho : H a = o) (ok : CellOk K G o (.dic ds)) : ∃ vs, H a = some (.dK vs) ∧ RepP K G vs ds := by
  cases ok with
  | dic r => exact ⟨_, ho, r⟩
theorem ds_put (C : Ctx P w Kc mg base X N sc Wx k) (hv : DE X Wx Z e fv) (ho : DE X Wx Z o fo) (hi : DE X Wx Z i fi) (hs : swapsWithSole [.Subscript o i pos'] e pos.line X.env = pure false := by rfl) (hw : swappedStores [.Subscript o i pos'] e X.env = pure none := by rfl)
    (h1 : (assignEach [.Subscript o i pos'] X.env).map (·.2) = [assign (.Subscript o i pos') X.env] := by rfl)
    (ha : ∀ v, assign (.Subscript o i pos') X.env v = (do
      let ov ← holding [v] (eval o X.env)
      let iv ← holding [v, ov] (eval i X.env)
      standAt pos'
      holding [v, ov, iv] (setItem ov iv v)
      release [v, ov, iv] []) := by intro _; rfl) : DS X Wx Z (.Assign [.Subscript o i pos'] e pos) (sPut fv fo fi) := by
  obtain ⟨tv, pv, ov⟩ := hv
  obtain ⟨to, po, oo⟩ := ho
  obtain ⟨ti, pi, oi⟩ := hi
  refine ⟨_, ps_asg pv (pg_sub po pi (put_ok C.room) ha) hs hw h1, fun ι M Γ σ G H out D s e q => ?_⟩
  refine ov.thenS s e q fun w M1 e1 ι1 G1 H1 v s1 x1 r1 => ?_
  refine oo.thenS s1 e1 (q.ext x1) fun c M2 e2 ι2 G2 H2 vo s2 x2 r2 => ?_
  refine oi.thenS s2 e2 ((q.ext x1).ext x2) fun y M3 e3 ι3 G3 H3 vi s3 x3 r3 => ?_
  cases w with
  | r _ => cases e3
  | d d =>
    cases c with
    | d _ => cases e3
    | r c =>
      obtain ⟨dy, h2, e3⟩ := Option.bind_eq_some_iff.mp e3
      obtain ⟨cell, h3, e3⟩ := Option.bind_eq_some_iff.mp e3
      obtain ⟨cell', h4, rfl⟩ := Option.map_eq_some_iff.mp e3
      have rv : Rep X.K G3 v d := by
        cases r1 with
        | d r => exact (r.mono x2.sm).mono x3.sm
      obtain ⟨ad, rfl, hc⟩ : ∃ ad, vo = .ref ad ∧ ι3[c]? = some ad := by
        cases x3.rw r2 with
        | r h => exact ⟨_, rfl, h⟩
      have ok := s3.cr.ct c ad cell hc h3
      have fin : ∀ {oh : HO}, CellOk X.K G3 (some oh) cell' → cell' ≠ .dead → cell ≠ .dead → D.nx σ (upd H3 ad oh) := fun {oh} ok' nd nd0 => by
        have live : M3[c]? ≠ some Cell.dead := fun z => by rw [h3] at z; cases z; exact nd0 rfl
        have c4 := s3.cr.write hc live ok' nd
        have x4 : Ext Z ι3 G3 H3 ι3 G3 (upd H3 ad oh) := ⟨⟨[], by simp⟩, Same.refl _, fun b hb => upd_ne fun z => s3.cr.dj ad (List.mem_of_getElem? hc) (by rw [← z]; exact hb)⟩
        exact q ι3 G3 _ σ (s3.at x4 c4) (((x1.trans x2).trans x3).trans x4)
      unfold putC at h4
      split at h4
      · rename_i ds z _
        obtain ⟨j, hj, rfl⟩ := Option.map_eq_some_iff.mp h4
        obtain ⟨vs, hvs, rl⟩ := cell_lst rfl ok
        have ei : vi = .int z := (s3.cr.rb r3 h2).int
        subst ei
        exact .inl ⟨ad, vs, z, j, rfl, rfl, hvs, by rw [rl.length]; exact hj, fin (.lst (rl.set j rv)) (fun z => nomatch z) (fun z => nomatch z)⟩
      · obtain ⟨kk, hk, h4⟩ := Option.bind_eq_some_iff.mp h4
        split at h4
        · rename_i hz
          cases h4
          obtain ⟨vs, hvs, rp⟩ := cell_dic rfl ok
          have ei := (s3.cr.rb r3 h2).key hk
          subst ei
          exact .inr ⟨ad, _, rfl, .inl ⟨vs, kk, hvs, rfl, by rw [rp.length]; exact hz, rfl⟩, fin (.dic (rp.put kk rv)) (fun z => nomatch z) (fun z => nomatch z)⟩
        · cases h4
      · cases h4
/-! ### d.get(k), d.get(k, x) -/
def getD1 : D → D → Option D
  | .dic kvs, y => (keyO y).map fun kk => (valD kvs kk).getD .non
  | _, _ => none
def eGet1 (f g : EF) : EF := fun Γ M => bnd (f Γ M) fun w M1 => (rd M1 w).bind fun x => match x with
  | .dic _ => bnd (g Γ M1) fun y M2 => (rd2 getD1 M2 w y).map fun d => .ok (.d d) M2
  | _ => none
/-- the default is data -/
def eGet2 (f g h : EF) : EF := fun Γ M => bnd (f Γ M) fun w M1 => (rd M1 w).bind fun x => match x with
  | .dic _ => bnd (g Γ M1) fun y M2 => bnd (h Γ M2) fun z M3 => match z with
    | .d dz => (rd M3 w).bind fun x3 => match x3 with
      | .dic kvs => (rd M3 y).bind fun dy => (keyO dy).map fun kk => .ok (.d ((valD kvs kk).getD dz)) M3
      | _ => none
    | _ => none
  | _ => none
theorem isD_of (sm : Same G H) {v : V} {kvs : List (Key × D)} (r : RB K G H v (.dic kvs)) : ∃ a, v = .ref a ∧ IsD H a := by
  obtain ⟨a, vs, rfl, h, _⟩ := r.asP sm
  exact ⟨a, rfl, .inl ⟨vs, h⟩⟩
theorem de_get1 (C : Ctx P w Kc mg base X N sc Wx k) (ho : DE X Wx Z o f) (he : DE X Wx Z e g) (m : M1 X o "get" apos e cpos := by exact ⟨rfl, rfl, rfl, rfl⟩) : DE X Wx Z (.Call (.Attribute o "get" apos) [e] [] cpos) (eGet1 f g) := by
  obtain ⟨to, po, oo⟩ := ho
  obtain ⟨te, pe, oe⟩ := he
  refine ⟨_, pe_dget1 (room1 C.room) po pe m, fun ι M Γ σ G H out Q s e q => ?_⟩
  refine oo.then s e (EPost.x q) fun w M1 e1 ι1 G1 H1 v s1 x1 r1 => ?_
  obtain ⟨dx, h1, e1⟩ := Option.bind_eq_some_iff.mp e1
  cases dx with
  | dic kvs =>
    obtain ⟨a, rfl, hd⟩ := isD_of s1.cr.sub (s1.cr.rb r1 h1)
    refine ⟨a, rfl, hd, ?_⟩
    refine oe.then s1 e1 (EPost.x (q.ext x1)) fun y M2 e2 ι2 G2 H2 vy s2 x2 r2 => ?_
    obtain ⟨d, h2, rfl⟩ := Option.map_eq_some_iff.mp e2
    obtain ⟨dx2, h3, h2⟩ := Option.bind_eq_some_iff.mp h2
    obtain ⟨dy, h4, h2⟩ := Option.bind_eq_some_iff.mp h2
    cases dx2 with
    | dic kvs2 =>
      obtain ⟨kk, h5, rfl⟩ := Option.map_eq_some_iff.mp (show (keyO dy).map (fun kk => (valD kvs2 kk).getD .non) = some d from h2)
      obtain ⟨l, vs, el, h6, rp⟩ := (s2.cr.rb (x2.rw r1) h3).asP s2.cr.sub
      cases el
      have ey := (s2.cr.rb r2 h4).key h5
      subst ey
      refine ⟨valV vs kk, .inl ⟨vs, kk, h6, rfl, rfl⟩, ?_⟩
      rcases rp.val kk with ⟨h7, h8⟩ | ⟨v', d', h7, h8, r⟩
      · rw [h8]
        refine q ι2 G2 H2 _ s2 (x1.trans x2) ?_
        rw [h7]; exact .d .non
      · rw [h8]
        refine q ι2 G2 H2 _ s2 (x1.trans x2) ?_
        rw [h7]; exact .d r
    | _ => cases h2
  | _ => cases e1
theorem de_get2 {e2 : Expr} (C : Ctx P w Kc mg base X N sc Wx k) (ho : DE X Wx Z o f) (he : DE X Wx Z e g) (hx : DE X Wx Z e2 h') (m : M2 X o "get" apos e e2 cpos := by exact ⟨rfl, rfl, rfl, rfl⟩) : DE X Wx Z (.Call (.Attribute o "get" apos) [e, e2] [] cpos) (eGet2 f g h') := by
  obtain ⟨to, po, oo⟩ := ho
  obtain ⟨te, pe, oe⟩ := he
  obtain ⟨tx, px, ox⟩ := hx
  refine ⟨_, pe_dget2 (room1 C.room) po pe px m, fun ι M Γ σ G H out Q s e q => ?_⟩
  refine oo.then s e (EPost.x q) fun w M1 e1 ι1 G1 H1 v s1 x1 r1 => ?_
  obtain ⟨dx, h1, e1⟩ := Option.bind_eq_some_iff.mp e1
  cases dx with
  | dic kvs =>
    obtain ⟨a, rfl, hd⟩ := isD_of s1.cr.sub (s1.cr.rb r1 h1)
    refine ⟨a, rfl, hd, ?_⟩
    refine oe.then s1 e1 (EPost.x (q.ext x1)) fun y M2 e2 ι2 G2 H2 vy s2 x2 r2 => ?_
    refine ox.then s2 e2 (EPost.x ((q.ext x1).ext x2)) fun z M3 e3 ι3 G3 H3 vz s3 x3 r3 => ?_
    cases z with
    | r _ => cases e3
    | d dz =>
      obtain ⟨dx3, h3, e3⟩ := Option.bind_eq_some_iff.mp e3
      cases dx3 with
      | dic kvs3 =>
        obtain ⟨dy, h4, e3⟩ := Option.bind_eq_some_iff.mp e3
        obtain ⟨kk, h5, rfl⟩ := Option.map_eq_some_iff.mp e3
        obtain ⟨l, vs, el, h6, rp⟩ := (s3.cr.rb (x3.rw (x2.rw r1)) h3).asP s3.cr.sub
        cases el
        have ey := (s3.cr.rb (x3.rw r2) h4).key h5
        subst ey
        have rz : Rep X.K G3 vz dz := by
          cases r3 with
          | d r => exact r
        refine ⟨valV vs kk, .inl ⟨vs, kk, h6, rfl, rfl⟩, ?_⟩
        rcases rp.val kk with ⟨h7, h8⟩ | ⟨v', d', h7, h8, r⟩
        · rw [h8]
          refine q ι3 G3 H3 _ s3 ((x1.trans x2).trans x3) ?_
          rw [h7]; exact .d rz
        · rw [h8]
          refine q ι3 G3 H3 _ s3 ((x1.trans x2).trans x3) ?_
          rw [h7]; exact .d r
      | _ => cases e3
  | _ => cases e1
/-! ### {}, {k: v, ..}, {**m, k: v} -/
def eDict0 : EF := fun _ M => some (.ok (.r M.length) (M ++ [.dic []]))
theorem de_dict0 : DE X Wx Z (.Dict [] [] pos) eDict0 := ⟨_, pe_dnewK, fun ι M Γ σ G H out Q s e q => by
  cases e
  intro p hp
  obtain ⟨s2, x2⟩ := s.newCell hp (CellOk.dic (G := G) .nil) (fun z => nomatch z)
  exact q _ _ _ _ s2 x2 (.r (by rw [← s.cr.ln]; simp))⟩
/-- the pairs of a display -/
abbrev PF2 := Env → Store → Option (Out (List (D × D)))
def pNil : PF2 := fun _ M => some (.ok [] M)
def pCons (f g : EF) (r : PF2) : PF2 := fun Γ M => bnd (f Γ M) fun w M1 => bnd (g Γ M1) fun w' M2 => match w, w' with
  | .d x, .d y => bnd (r Γ M2) fun ps M3 => some (.ok ((x, y) :: ps) M3)
  | _, _ => none
def RepPP (K : PySem.W.Frag) (G : Hp) : List (V × V) → List (D × D) → Prop := Paired fun p q => Rep K G p.1 q.1 ∧ Rep K G p.2 q.2
theorem RepPP.mono (e : Same G G') : ∀ {ps : List (V × V)} {qs : List (D × D)}, RepPP K G ps qs → RepPP K G' ps qs
  | _, _, .nil => .nil
  | _, _, .cons r t => .cons ⟨r.1.mono e, r.2.mono e⟩ (RepPP.mono e t)
structure DPs (X : Cx) (Wx : WX) (Z : Addr → Prop) (pos : Pos) (keys : List (Option Expr)) (values : List Expr) (f : PF2) : Prop where
  ex : ∃ trs, PPs X pos keys values trs ∧ ∀ ι M Γ σ G H out Q, SR X.K Z ι M Γ σ G H → f Γ M = some out → (match out with
    | .ok ps M' => ∀ ι' G' H' us, SR X.K Z ι' M' Γ σ G' H' → Ext Z ι G H ι' G' H' → RepPP X.K G' us ps → Q us H'
    | .exc x M' => XPost X Wx Z ι Γ σ G H x M') → tPairs trs σ H Q
theorem dps_nil : DPs X Wx Z pos [] [] pNil := ⟨_, pps_nil, fun ι M Γ σ G H out Q s e q => by
  cases e
  exact q ι G H [] s Ext.refl .nil⟩
theorem dps_cons {kx vx : Expr} {ks : List (Option Expr)} {vs : List Expr} {r : PF2} (hk : DE X Wx Z kx f) (hv : DE X Wx Z vx g) (hr : DPs X Wx Z pos ks vs r) : DPs X Wx Z pos (some kx :: ks) (vx :: vs) (pCons f g r) := by
  obtain ⟨tk, pk, ok⟩ := hk
  obtain ⟨tv, pv, ov⟩ := hv
  obtain ⟨trs, pr, or⟩ := hr
  refine ⟨_, pps_cons pk pv pr, fun ι M Γ σ G H out Q s e q => ?_⟩
  refine ok.then s e (fun x M' eo => by subst eo; exact q) fun w M1 e1 ι1 G1 H1 v s1 x1 r1 => ?_
  refine ov.then s1 e1 (fun x M' eo => by subst eo; exact XPost.ext x1 q) fun w' M2 e2 ι2 G2 H2 v' s2 x2 r2 => ?_
  cases w with
  | r _ => cases e2
  | d x =>
    cases w' with
    | r _ => cases e2
    | d y =>
      have ra : Rep X.K G2 v x := by
        cases r1 with
        | d r => exact r.mono x2.sm
      have rb : Rep X.K G2 v' y := by
        cases r2 with
        | d r => exact r
      rcases bnd_some e2 with ⟨ps, M3, e3, e4⟩ | ⟨xx, M3, e3, rfl⟩
      · cases e4
        refine or ι2 M2 Γ σ G2 H2 _ _ s2 e3 fun ι3 G3 H3 us s3 x3 r3 => ?_
        exact q ι3 G3 H3 _ s3 ((x1.trans x2).trans x3) (.cons ⟨ra.mono x3.sm, rb.mono x3.sm⟩ r3)
      · exact or ι2 M2 Γ σ G2 H2 _ _ s2 e3 (XPost.ext (x1.trans x2) q)
def keyPs : List (D × D) → Option (List (Key × D))
  | [] => some []
  | p :: r => (keyO p.1).bind fun kk => (keyPs r).map ((kk, p.2) :: ·)
def mergeD (acc ps : List (Key × D)) : List (Key × D) := ps.foldl (fun acc p => putD acc p.1 p.2) acc
theorem RepP.merge {more : List (Key × V)} {dm : List (Key × D)} (r : RepP K G more dm) : ∀ {vs : List (Key × V)} {ds : List (Key × D)}, RepP K G vs ds → RepP K G (mergeK vs more) (mergeD ds dm) := by
  induction more generalizing dm with
  | nil => intro vs ds q; cases r; exact q
  | cons m more ih => intro vs ds q; cases r with
    | cons a t => exact ih t (q.put _ a)
theorem RepPP.keys {us : List (V × V)} {ps : List (D × D)} (r : RepPP K G us ps) : ∀ {ks : List (Key × D)}, keyPs ps = some ks → ∃ kvs : List (Key × V), us = kvs.map (fun kv => (kV kv.1, kv.2)) ∧ RepP K G kvs ks := by
  induction r with
  | nil => intro ks h; cases h; exact ⟨[], rfl, .nil⟩
  | @cons a b as bs h t ih =>
    intro ks hk
    obtain ⟨kk, e1, hk⟩ := Option.bind_eq_some_iff.mp hk
    obtain ⟨l, e2, rfl⟩ := Option.map_eq_some_iff.mp hk
    obtain ⟨kvs, rfl, rp⟩ := ih e2
    obtain ⟨a1, a2⟩ := a
    have := h.1.key e1
    subst this
    exact ⟨(kk, a2) :: kvs, rfl, .cons h.2 rp⟩
def eDict (r : PF2) : EF := fun Γ M => bnd (r Γ (M ++ [.dic []])) fun ps M1 => match M1[M.length]? with
  | some (.dic []) => if ps.length ≤ 15 then (keyPs ps).map fun ks => .ok (.r M.length) (M1.set M.length (.dic (mergeD [] ks))) else none
  | _ => none
theorem new_at {p : Addr} {c : Cell} (c : CRel K Z ι M G H) : (ι ++ [p])[M.length]? = some p := by
  rw [← c.ln]; simp
theorem de_dict {keys : List (Option Expr)} {values : List Expr} {r : PF2} (hr : DPs X Wx Z pos keys values r) (hall : keys.all (·.isSome) = true := by rfl) (hl : keys.length = values.length := by rfl) (h0 : keys ≠ [] := by exact fun z => nomatch z) (h15 : keys.length ≤ 15 := by decide) : DE X Wx Z (.Dict keys values pos) (eDict r) := by
  obtain ⟨trs, pr, or⟩ := hr
  refine ⟨_, pe_disp pr hall hl h0 h15, fun ι M Γ σ G H out Q s e q p hp => ?_⟩
  obtain ⟨s0, x0⟩ := s.newCell hp (CellOk.dic (G := G) .nil) (fun z => nomatch z)
  have ip : (ι ++ [p])[M.length]? = some p := by rw [← s.cr.ln]; simp
  rcases bnd_some e with ⟨ps, M1, e1, e2⟩ | ⟨xx, M1, e1, rfl⟩
  · refine or _ _ Γ σ G _ _ _ s0 e1 fun ι1 G1 H1 us s1 x1 r1 => ?_
    split at e2
    · rename_i hc
      split at e2
      · rename_i hz
        obtain ⟨ks, h1, rfl⟩ := Option.map_eq_some_iff.mp e2
        have ip1 : ι1[M.length]? = some p := by
          obtain ⟨l, rfl⟩ := x1.pre
          rw [List.getElem?_append_left (List.getElem?_eq_some_iff.mp ip).1]; exact ip
        obtain ⟨vs, hv, rp0⟩ := cell_dic rfl (s1.cr.ct _ _ _ ip1 hc)
        cases rp0
        obtain ⟨kvs, rfl, rp⟩ := r1.keys h1
        have hlen : kvs.length ≤ 15 := by
          have := Paired.length r1
          rw [List.length_map] at this
          omega
        refine ⟨hv, kvs, rfl, hlen, ?_⟩
        have c2 := s1.cr.write (o := .dK (mergeK [] kvs)) (x := .dic (mergeD [] ks)) ip1 (by rw [hc]; exact fun z => nomatch z) (.dic (rp.merge .nil)) (fun z => nomatch z)
        have x2 : Ext Z ι1 G1 H1 ι1 G1 (upd H1 p (.dK (mergeK [] kvs))) := ⟨⟨[], by simp⟩, Same.refl _, fun b hb => upd_ne fun z => s1.cr.dj p (List.mem_of_getElem? ip1) (by rw [← z]; exact hb)⟩
        exact q _ _ _ _ (s1.at x2 c2) ((x0.trans x1).trans x2) (.r ip1)
      · cases e2
    · cases e2
  · exact or _ _ Γ σ G _ _ _ s0 e1 (XPost.ext x0 q)
end
end DL

set_option Elab.async false
set_option linter.all false
set_option maxRecDepth 100000
set_option autoImplicit false
set_option maxHeartbeats 1000000
namespace DL
open PySem PySem.Spec PyProof.Rows L2
variable [PWd]
variable {K : PySem.W.Frag} {G G' G'' H H' H'' : Hp} {Z : Addr → Prop} {ι ι' ι'' : List Addr} {M M' : Store} {Γ Γ' : Env} {σ σ' : L2.St}
section
variable {P : Program} {w : World} {mg : Str → Option Value} {base : Heap} {Kc : PySem.W.Frag}
variable {X : Cx} {N : List Str} {sc : Scope} {Wx : WX} {k : Nat} {a b c e o i m : Expr} {es : List Expr} {f g h' fi fo fv : EF} {t u : TF} {af : AF} {pos p apos cpos p2 pos' : Pos} {x name : Str} {id T : String}
/-! ### {**m, k: v} -/
def notAt (n : Nat) : W → Bool
  | .r i => i != n
  | .d _ => true
def dicOf : Option D → Option (List (Key × D))
  | some (.dic kvs) => some kvs
  | _ => none
def isEmp : Option Cell → Bool
  | some (.dic []) => true
  | _ => false
def isDic (kvs : List (Key × D)) : Option Cell → Option Unit
  | some (.dic _) => some ()
  | _ => none
def eDStar (f g h : EF) : EF := fun Γ M => bnd (f Γ (M ++ [.dic []])) fun w M1 => (dicOf (rd M1 w)).bind fun kvs => if notAt M.length w = true ∧ isEmp M1[M.length]? = true ∧ kvs.length < sizeLine then
    bnd (g Γ (M1.set M.length (.dic kvs) ++ [.dic []])) fun y M2 => bnd (h Γ M2) fun z M3 => match y, z with
      | .d dy, .d dz => (keyO dy).bind fun kk => if isEmp M3[M1.length]? = true then match M3[M.length]? with
          | some (.dic kvs3) => if kvs3.length < sizeLine then some (.ok (.r M.length) (((M3.set M1.length (.dic [(kk, dz)])).set M.length (.dic (putD kvs3 kk dz))).take (M.length + 1))) else none
          | _ => none
        else none
      | _, _ => none
  else none
theorem isEmp_of {c : Option Cell} (h : isEmp c = true) : c = some (.dic []) := by
  unfold isEmp at h
  split at h
  · rfl
  · cases h
theorem SR.write (s : SR K Z ι M Γ σ G H) {i : Nat} {a : Addr} (hi : ι[i]? = some a) (hl : M[i]? ≠ some Cell.dead) {o : HO} {x : Cell} (hx : CellOk K G (some o) x) (hxd : x ≠ .dead) : SR K Z ι (M.set i x) Γ σ G (upd H a o) ∧ Ext Z ι G H ι G (upd H a o) := by
  have x2 : Ext Z ι G H ι G (upd H a o) := ⟨⟨[], by simp⟩, Same.refl _, fun b hb => upd_ne fun z => s.cr.dj a (List.mem_of_getElem? hi) (by rw [← z]; exact hb)⟩
  exact ⟨s.at x2 (s.cr.write hi hl hx hxd), x2⟩
theorem Ext.at (x : Ext Z ι G H ι' G' H') {i : Nat} {a : Addr} (h : ι[i]? = some a) : ι'[i]? = some a := by
  obtain ⟨l, rfl⟩ := x.pre
  rw [List.getElem?_append_left (List.getElem?_eq_some_iff.mp h).1]
  exact h
theorem de_dstar (hm : DE X Wx Z m f) (hk : DE X Wx Z e g) (hv : DE X Wx Z o h') : DE X Wx Z (.Dict [none, some e] [m, o] pos) (eDStar f g h') := by
  obtain ⟨tm, pm, om⟩ := hm
  obtain ⟨tk, pk, ok⟩ := hk
  obtain ⟨tv, pv, ov⟩ := hv
  refine ⟨_, pe_dstar pm pk pv, fun ι M Γ σ G H out Q s e q p hp => ?_⟩
  obtain ⟨s0, x0⟩ := s.newCell hp (CellOk.dic (G := G) .nil) (fun z => nomatch z)
  have ip : (ι ++ [p])[M.length]? = some p := by rw [← s.cr.ln]; simp
  refine om.then s0 e (EPost.x (q.ext x0)) fun w M1 e1 ι1 G1 H1 v s1 x1 r1 => ?_
  obtain ⟨kvs, h1, e1⟩ := Option.bind_eq_some_iff.mp e1
  have hrd : rd M1 w = some (.dic kvs) := by
    unfold dicOf at h1
    split at h1
    · rename_i h; cases h1; exact h
    · cases h1
  split at e1
  · rename_i hc
    obtain ⟨hna, hemp, hz⟩ := hc
    have hcell := isEmp_of hemp
    have ip1 : ι1[M.length]? = some p := x1.at ip
    obtain ⟨vs0, hv0, rp0⟩ := cell_dic rfl (s1.cr.ct _ _ _ ip1 hcell)
    cases rp0
    have live1 : M1[M.length]? ≠ some Cell.dead := by rw [hcell]; exact fun z => nomatch z
    obtain ⟨a, vs, rfl, hRd, rp⟩ := (s1.cr.rb r1 hrd).asP s1.cr.sub
    have hne : a ≠ p := by
      intro ea
      subst ea
      cases w with
      | d dw =>
        cases hrd
        cases r1 with
        | d r1 => cases r1 with
          | dic hg _ =>
            have := s1.cr.cf _ _ ip1 live1
            rw [this] at hg; cases hg
      | r j =>
        cases r1 with
        | r hj =>
          have ej : j = M.length := nd_ix s1.cr.nd hj ip1
          subst ej
          simp [notAt] at hna
    refine ⟨a, vs, rfl, hne, by rw [rp.length]; exact hz, hv0, hRd, fun q2 hq2 => ?_⟩
    obtain ⟨s1', x1'⟩ := s1.write (o := .dK vs) (x := .dic kvs) ip1 live1 (.dic rp) (fun z => nomatch z)
    obtain ⟨s2, x2⟩ := s1'.newCell hq2 (CellOk.dic (G := G1) .nil) (fun z => nomatch z)
    have hlen : (M1.set M.length (Cell.dic kvs)).length = M1.length := List.length_set ..
    have ip2 : (ι1 ++ [q2])[M1.length]? = some q2 := by rw [← s1.cr.ln]; simp
    have ipp : (ι1 ++ [q2])[M.length]? = some p := x2.at ip1
    have xall := (x0.trans x1).trans (x1'.trans x2)
    refine ok.then s2 e1 (EPost.x (q.ext xall)) fun y M2 e2 ι3 G3 H3 vy s3 x3 r3 => ?_
    refine ov.then s3 e2 (EPost.x ((q.ext xall).ext x3)) fun z M3 e3 ι4 G4 H4 vz s4 x4 r4 => ?_
    cases y with
    | r _ => cases e3
    | d dy =>
      cases z with
      | r _ => cases e3
      | d dz =>
        obtain ⟨kk, hkk, e3⟩ := Option.bind_eq_some_iff.mp e3
        split at e3
        · rename_i hemp2
          have hcell2 := isEmp_of hemp2
          have ip4 : ι4[M1.length]? = some q2 := x4.at (x3.at ip2)
          have ipp4 : ι4[M.length]? = some p := x4.at (x3.at ipp)
          split at e3
          · rename_i kvs3 hc3
            split at e3
            · rename_i hz3
              cases e3
              obtain ⟨vs2, hv2, rp2⟩ := cell_dic rfl (s4.cr.ct _ _ _ ip4 hcell2)
              cases rp2
              obtain ⟨vs3, hv3, rp3⟩ := cell_dic rfl (s4.cr.ct _ _ _ ipp4 hc3)
              have ry : Rep X.K G4 vy dy := by
                cases r3 with
                | d r => exact r.mono x4.sm
              have rz : Rep X.K G4 vz dz := by
                cases r4 with
                | d r => exact r
              have eky := ry.key hkk
              subst eky
              have live4 : M3[M1.length]? ≠ some Cell.dead := by rw [hcell2]; exact fun z => nomatch z
              obtain ⟨s5, x5⟩ := s4.write (o := .dK [(kk, vz)]) (x := .dic [(kk, dz)]) ip4 live4 (.dic (.cons rz .nil)) (fun z => nomatch z)
              have hne12 : M.length ≠ M1.length := by
                have h8 := (List.getElem?_eq_some_iff.mp ip1).1
                rw [s1.cr.ln] at h8
                omega
              have live5 : (M3.set M1.length (Cell.dic [(kk, dz)]))[M.length]? ≠ some Cell.dead := by rw [List.getElem?_set_ne (Ne.symm hne12), hc3]; exact fun z => nomatch z
              have hpq : p ≠ q2 := fun z => by
                rw [z] at ipp4
                exact hne12 (nd_ix s4.cr.nd ipp4 ip4)
              obtain ⟨s6, x6⟩ := s5.write (o := .dK (putK vs3 kk vz)) (x := .dic (putD kvs3 kk dz)) ipp4 live5 (.dic (rp3.put kk rz)) (fun z => nomatch z)
              refine ⟨kk, vs3, rfl, by rw [rp3.length]; exact hz3, hv2, hv3, ?_⟩
              have xfin := (((xall.trans x3).trans x4).trans x5).trans x6
              have c7 := s6.cr.trim (M.length + 1)
              have pre : ∃ l, ι4 = (ι ++ [p]) ++ l := by
                obtain ⟨l1, e1⟩ := x1.pre
                obtain ⟨l2, e2⟩ := x2.pre
                obtain ⟨l3, e3⟩ := x3.pre
                obtain ⟨l4, e4⟩ := x4.pre
                exact ⟨l1 ++ l2 ++ l3 ++ l4, by rw [e4, e3, e2, e1]; simp⟩
              obtain ⟨l, el⟩ := pre
              have tk : ι4.take (M.length + 1) = ι ++ [p] := by
                rw [el, ← s.cr.ln]
                have : (ι ++ [p]).length = ι.length + 1 := by simp
                rw [← this, List.take_left]
              rw [tk] at c7
              have x7 : Ext Z ι G H (ι ++ [p]) G4 (upd (upd H4 q2 (.dK [(kk, vz)])) p (.dK (putK vs3 kk vz))) := ⟨⟨[p], rfl⟩, xfin.sm, xfin.zs⟩
              exact q _ _ _ _ (s.at x7 c7) x7 (.r ip)
            · cases e3
          · cases e3
        · cases e3
  · cases e1
end
end DL

set_option Elab.async false
set_option linter.all false
set_option maxRecDepth 100000
set_option autoImplicit false
set_option maxHeartbeats 1000000
namespace DL
open PySem PySem.Spec PyProof.Rows L2
variable [PWd]
variable {K : PySem.W.Frag} {G G' G'' H H' H'' : Hp} {Z : Addr → Prop} {ι ι' ι'' : List Addr} {M M' : Store} {Γ Γ' : Env} {σ σ' : L2.St}
/-! ### enumerate, zip, items -/
def enumD (n : Nat) : List D → List D
  | [] => []
  | d :: r => .tup [.int (n : Nat), d] :: enumD (n + 1) r
theorem enumD_len (ds : List D) : ∀ n, (enumD n ds).length = ds.length := by
  induction ds with
  | nil => intro n; rfl
  | cons d ds ih => intro n; show (enumD (n + 1) ds).length + 1 = _; rw [ih, List.length_cons]
theorem enumD_get (ds : List D) : ∀ n i : Nat, (enumD n ds)[i]? = (ds[i]?).map fun d => D.tup [D.int ((n + i : Nat) : Int), d] := by
  induction ds with
  | nil => intro n i; rfl
  | cons d ds ih =>
    intro n i
    cases i with
    | zero => rfl
    | succ i =>
      show (enumD (n + 1) ds)[i]? = _
      rw [ih]
      show _ = (ds[i]?).map _
      rw [show n + 1 + i = n + (i + 1) by omega]
def zipD : List D → List D → List D
  | a :: as, b :: bs => .tup [a, b] :: zipD as bs
  | _, _ => []
theorem zipD_get (as : List D) : ∀ (bs : List D) (i : Nat) (d : D), (zipD as bs)[i]? = some d → ∃ a b, as[i]? = some a ∧ bs[i]? = some b ∧ d = .tup [a, b] := by
  induction as with
  | nil => intro bs i d h; cases bs <;> simp [zipD] at h
  | cons a as ih =>
    intro bs i d h
    cases bs with
    | nil => simp [zipD] at h
    | cons b bs =>
      cases i with
      | zero => simp [zipD] at h; exact ⟨a, b, rfl, rfl, h.symm⟩
      | succ i =>
        have h' : (zipD as bs)[i]? = some d := h
        obtain ⟨x, y, h1, h2, h3⟩ := ih bs i d h'
        exact ⟨x, y, h1, h2, h3⟩
theorem zipD_len (as : List D) : ∀ bs : List D, (zipD as bs).length = min as.length bs.length := by
  induction as with
  | nil => intro bs; cases bs <;> simp [zipD]
  | cons a as ih =>
    intro bs
    cases bs with
    | nil => simp [zipD]
    | cons b bs =>
      show (zipD as bs).length + 1 = min (as.length + 1) (bs.length + 1)
      rw [ih]; omega
theorem newTup {sm : Same G H} {T : Addr} {x y : V} {a b : D} (hT : H T = none) (ra : Rep K G x a) (rb : Rep K G y b) : ∃ G', Grow G H G' (upd H T (.tup [x, y])) ∧ Rep K G' (.ref T) (.tup [a, b]) := by
  have gw := Grow.one (o := .tup [x, y]) sm hT
  exact ⟨_, gw, .tup (SqT.of upd_same) ((RepL.cons ra (.cons rb .nil)).mono gw.g)⟩
theorem jok_enum {a : Addr} {vs : List V} {ds : List D} (h : SqL K G a vs) (r : RepL K G vs ds) : JOk K (Ite K a) G (enumD 0 ds) := by
  refine ⟨fun i G1 H1 s s' hi => ?_, fun i G1 H1 x H2 d s s' hd y => ?_, fun i G1 H1 s s' hi => ?_⟩
  · rw [enumD_len] at hi
    obtain ⟨v, hv, _⟩ := r.get (List.getElem?_eq_getElem hi)
    exact ⟨vs, v, s'.seq (s.seq h), hv⟩
  · obtain ⟨T, z, rfl, hT, rfl, y⟩ := y
    have hx := y vs (s'.seq (s.seq h))
    rw [enumD_get] at hd
    obtain ⟨dz, h1, rfl⟩ := Option.map_eq_some_iff.mp hd
    obtain ⟨v, hv, rv⟩ := r.get h1
    rw [hv] at hx
    cases hx
    rw [Nat.zero_add]
    exact newTup (sm := s') hT (.int _) (rv.mono s)
  · rw [enumD_len] at hi
    exact ⟨vs, s'.seq (s.seq h), by rw [r.length]; exact hi⟩
theorem jok_zip {a b : Addr} {vs us : List V} {ds es : List D} (h : SqL K G a vs) (r : RepL K G vs ds) (h' : SqL K G b us) (r' : RepL K G us es) : JOk K (Itz K a b) G (zipD ds es) := by
  refine ⟨fun i G1 H1 s s' hi => ?_, fun i G1 H1 x H2 d s s' hd y => ?_, fun i G1 H1 s s' hi => ?_⟩
  · rw [zipD_len] at hi
    obtain ⟨v, hv, _⟩ := r.get (List.getElem?_eq_getElem (show i < ds.length by omega))
    obtain ⟨u, hu, _⟩ := r'.get (List.getElem?_eq_getElem (show i < es.length by omega))
    exact ⟨vs, us, v, u, s'.seq (s.seq h), s'.seq (s.seq h'), hv, hu⟩
  · obtain ⟨T, z, z', rfl, hT, rfl, y, y'⟩ := y
    have hx := y vs (s'.seq (s.seq h))
    have hx' := y' us (s'.seq (s.seq h'))
    obtain ⟨da, db, h1, h2, rfl⟩ := zipD_get _ _ _ _ hd
    obtain ⟨v, hv, rv⟩ := r.get h1
    obtain ⟨u, hu, ru⟩ := r'.get h2
    have hx := hv.symm.trans hx
    have hx' := hu.symm.trans hx'
    cases hx
    cases hx'
    exact newTup (sm := s') hT (rv.mono s) (ru.mono s)
  · rw [zipD_len] at hi
    refine ⟨vs, us, s'.seq (s.seq h), s'.seq (s.seq h'), ?_⟩
    rw [r.length, r'.length]
    omega
theorem jok_zipT {a b : Addr} {vs us : List V} {ds es : List D} (h : SqT K G a vs) (r : RepL K G vs ds) (h' : SqT K G b us) (r' : RepL K G us es) : JOk K (RZ.ItzT K a b) G (zipD ds es) := by
  refine ⟨fun i G1 H1 s s' hi => ?_, fun i G1 H1 x H2 d s s' hd y => ?_, fun i G1 H1 s s' hi => ?_⟩
  · rw [zipD_len] at hi
    obtain ⟨v, hv, _⟩ := r.get (List.getElem?_eq_getElem (show i < ds.length by omega))
    obtain ⟨u, hu, _⟩ := r'.get (List.getElem?_eq_getElem (show i < es.length by omega))
    exact ⟨vs, us, v, u, Same.seqT s' (Same.seqT s h), Same.seqT s' (Same.seqT s h'), hv, hu⟩
  · obtain ⟨T, z, z', rfl, hT, rfl, y, y'⟩ := y
    have hx := y vs (Same.seqT s' (Same.seqT s h))
    have hx' := y' us (Same.seqT s' (Same.seqT s h'))
    obtain ⟨da, db, h1, h2, rfl⟩ := zipD_get _ _ _ _ hd
    obtain ⟨v, hv, rv⟩ := r.get h1
    obtain ⟨u, hu, ru⟩ := r'.get h2
    have hx := hv.symm.trans hx
    have hx' := hu.symm.trans hx'
    cases hx
    cases hx'
    exact newTup (sm := s') hT (rv.mono s) (ru.mono s)
  · rw [zipD_len] at hi
    refine ⟨vs, us, Same.seqT s' (Same.seqT s h), Same.seqT s' (Same.seqT s h'), ?_⟩
    rw [r.length, r'.length]
    omega
def itemsD (kvs : List (Key × D)) : List D := kvs.map fun kv => .tup [kdD kv.1, kv.2]
theorem Rep.kd (k : Key) : Rep K G (kV k) (kdD k) := by
  cases k with
  | inl i => exact .int i
  | inr x => exact .str x
theorem RepP.get {vs : List (Key × V)} {ds : List (Key × D)} (r : RepP K G vs ds) {i : Nat} : ∀ {p : Key × D}, ds[i]? = some p → ∃ v, vs[i]? = some (p.1, v) ∧ Rep K G v p.2 := by
  induction vs generalizing ds i with
  | nil => intro p h; cases r; simp at h
  | cons w vs ih =>
    intro p h
    cases r with
    | cons a t => cases i with
      | zero => simp at h; subst h; exact ⟨_, rfl, a⟩
      | succ i => simp at h; obtain ⟨v, h1, h2⟩ := ih t h; exact ⟨v, by simpa using h1, h2⟩
theorem jok_items {d : Addr} {o : Obj} {vs : List (Key × V)} {ds : List (Key × D)} (h : G d = some (.frz o (.dK vs))) (r : RepP K G vs ds) : JOk K (Iti d o vs) G (itemsD ds) := by
  have hl : (itemsD ds).length = vs.length := by unfold itemsD; rw [List.length_map, r.length]
  refine ⟨fun i G1 H1 s s' hi => ⟨s' _ _ (s _ _ h), by rw [← hl]; exact hi⟩, fun i G1 H1 x H2 dd s s' hd y => ?_, fun i G1 H1 s s' hi => ⟨s' _ _ (s _ _ h), by rw [← hl]; exact hi⟩⟩
  obtain ⟨T, kk, v, h1, rfl, hT, rfl⟩ := y
  unfold itemsD at hd
  rw [List.getElem?_map] at hd
  obtain ⟨p, h2, rfl⟩ := Option.map_eq_some_iff.mp hd
  obtain ⟨v', h3, h4⟩ := r.get h2
  rw [h3] at h1
  cases h1
  exact newTup (sm := s') hT (Rep.kd _) (h4.mono s)
theorem jok_keys {d : Addr} {o : Obj} {vs : List (Key × V)} {ds : List (Key × D)} (h : G d = some (.frz o (.dK vs))) (r : RepP K G vs ds) : JOk K (Itk d o vs) G (ds.map fun kv => kdD kv.1) := by
  have hl : (ds.map fun kv => kdD kv.1).length = vs.length := by rw [List.length_map, r.length]
  refine ⟨fun i G1 H1 s s' hi => ⟨s' _ _ (s _ _ h), by rw [← hl]; exact hi⟩, fun i G1 H1 x H2 dd s s' hd y => ?_, fun i G1 H1 s s' hi => ⟨s' _ _ (s _ _ h), by rw [← hl]; exact hi⟩⟩
  obtain ⟨rfl, kk, v, h1, rfl⟩ := y
  rw [List.getElem?_map] at hd
  obtain ⟨p, h2, rfl⟩ := Option.map_eq_some_iff.mp hd
  obtain ⟨v', h3, h4⟩ := r.get h2
  rw [h3] at h1
  cases h1
  exact ⟨G1, Grow.refl s', Rep.kd _⟩
theorem jok_vals {d : Addr} {o : Obj} {vs : List (Key × V)} {ds : List (Key × D)} (h : G d = some (.frz o (.dK vs))) (r : RepP K G vs ds) : JOk K (Itd d o vs) G (ds.map fun kv => kv.2) := by
  have hl : (ds.map fun kv => kv.2).length = vs.length := by rw [List.length_map, r.length]
  refine ⟨fun i G1 H1 s s' hi => ⟨s' _ _ (s _ _ h), by rw [← hl]; exact hi⟩, fun i G1 H1 x H2 dd s s' hd y => ?_, fun i G1 H1 s s' hi => ⟨s' _ _ (s _ _ h), by rw [← hl]; exact hi⟩⟩
  obtain ⟨rfl, kk, h1⟩ := y
  rw [List.getElem?_map] at hd
  obtain ⟨p, h2, rfl⟩ := Option.map_eq_some_iff.mp hd
  obtain ⟨v', h3, h4⟩ := r.get h2
  rw [h3] at h1
  cases h1
  exact ⟨G1, Grow.refl s', h4.mono s⟩
section
variable {P : Program} {w : World} {mg : Str → Option Value} {base : Heap} {Kc : PySem.W.Frag}
variable {X : Cx} {N : List Str} {sc : Scope} {Wx : WX} {k : Nat} {a b e o tg : Expr} {es elts : List Expr} {f g : EF} {af : AF} {pos p apos cpos tpos : Pos} {kk : Nat}
/-- the data of a list | a tuple that stands still -/
def listW : W → Option (List D)
  | .d (.lst ds) => some ds
  | .d (.rol ds) => some ds
  | _ => none
def tupW : W → Option (List D)
  | .d (.tup ds) => some ds
  | _ => none
theorem listW_rep {v : V} {w : W} {ds : List D} (r : RW K ι G v w) (h : listW w = some ds) : ∃ a vs, v = .ref a ∧ SqL K G a vs ∧ RepL K G vs ds := by
  unfold listW at h
  split at h
  · cases h
    cases r with
    | d r => cases r with
      | lst h r => exact ⟨_, _, rfl, SqL.of h, r⟩
  · cases h
    cases r with
    | d r => cases r with
      | rol h r => exact ⟨_, _, rfl, h, r⟩
  · cases h
theorem tupW_rep {v : V} {w : W} {ds : List D} (r : RW K ι G v w) (h : tupW w = some ds) : ∃ a vs, v = .ref a ∧ SqT K G a vs ∧ RepL K G vs ds := by
  unfold tupW at h
  split at h
  · cases h
    cases r with
    | d r => cases r with
      | tup h r => exact ⟨_, _, rfl, h, r⟩
  · cases h
def iEnumF (f : AF) : IF := fun Γ M => bnd (f Γ M) fun ws M1 => match ws with
  | [w] => (listW w).map fun ds => .ok (enumD 0 ds) M1
  | _ => none
theorem di_enum (C : Ctx P w Kc mg base X N sc Wx k) (hm : mg "enumerate" = none) (ha : DA X Wx Z [e] af) (hg : sc.names.lookup ("enumerate" : Str) = some .globalImplicit := by rfl) (hs : starEach [e] X.env = [(false, eval e X.env)] := by rfl) :
    DI X Wx Z (.Tuple elts kk tpos) (.Call (.Name "enumerate" p) [e] [] pos) (iEnumF af) := by
  obtain ⟨⟨ta, pa, oa⟩, len⟩ := ha
  refine ⟨_, pi_enum (C.g hg) (C.m hm) pa hs, fun ι M Γ σ G H out R s e q => ?_⟩
  refine oa.then s e (fun x M' ex => by subst ex; exact q) fun ws M1 e1 e0 ι1 G1 H1 vs s1 x1 r1 => ?_
  split at e1
  · obtain ⟨ds, h, rfl⟩ := Option.map_eq_some_iff.mp e1
    cases r1 with
    | cons r t =>
      cases t
      obtain ⟨a, us, rfl, h1, r2⟩ := listW_rep r h
      exact ⟨a, us, rfl, s1.cr.sub.seq h1, q ι1 G1 H1 _ s1 x1 (jok_enum h1 r2)⟩
  · cases e1
def iZipF (f : AF) : IF := fun Γ M => bnd (f Γ M) fun ws M1 => match ws with
  | [w, w'] => (match listW w, listW w' with
    | some ds, some es => some (.ok (zipD ds es) M1)
    | _, _ => match tupW w, tupW w' with
      | some ds, some es => some (.ok (zipD ds es) M1)
      | _, _ => none)
  | _ => none
theorem di_zip (C : Ctx P w Kc mg base X N sc Wx k) (hm : mg "zip" = none) (ha : DA X Wx Z [a, b] af) (hg : sc.names.lookup ("zip" : Str) = some .globalImplicit := by rfl) (hs : starEach [a, b] X.env = (false, eval a X.env) :: starEach [b] X.env := by rfl) (hpl : (backTo pos (starEach [b] X.env)).any (·.1) = false := by rfl) :
    DI X Wx Z (.Tuple elts kk tpos) (.Call (.Name "zip" p) [a, b] [] pos) (iZipF af) := by
  obtain ⟨⟨ta, pa, oa⟩, len⟩ := ha
  refine ⟨_, RZ.pi_zipA (C.g hg) (C.m hm) pa hs hpl, fun ι M Γ σ G H out R s e q => ?_⟩
  refine oa.then s e (fun x M' ex => by subst ex; exact q) fun ws M1 e1 e0 ι1 G1 H1 vs s1 x1 r1 => ?_
  split at e1
  · cases r1 with
    | cons r t =>
      cases t with
      | cons r' t =>
        cases t
        split at e1
        · rename_i h h'
          cases e1
          obtain ⟨a, us, rfl, h1, r2⟩ := listW_rep r h
          obtain ⟨b, us', rfl, h1', r2'⟩ := listW_rep r' h'
          exact ⟨a, b, us, us', rfl, .inl ⟨s1.cr.sub.seq h1, s1.cr.sub.seq h1', q ι1 G1 H1 _ s1 x1 (jok_zip h1 r2 h1' r2')⟩⟩
        · split at e1
          · rename_i h h'
            cases e1
            obtain ⟨a, us, rfl, h1, r2⟩ := tupW_rep r h
            obtain ⟨b, us', rfl, h1', r2'⟩ := tupW_rep r' h'
            exact ⟨a, b, us, us', rfl, .inr ⟨Same.seqT s1.cr.sub h1, Same.seqT s1.cr.sub h1', q ι1 G1 H1 _ s1 x1 (jok_zipT h1 r2 h1' r2')⟩⟩
          · cases e1
  · cases e1
/-- a dict that stands still -/
def dicW : W → Option (List (Key × D))
  | .d (.dic ds) => some ds
  | _ => none
theorem dicW_rep {v : V} {w : W} {ds : List (Key × D)} (r : RW K ι G v w) (h : dicW w = some ds) : ∃ a o vs, v = .ref a ∧ G a = some (.frz o (.dK vs)) ∧ RepP K G vs ds := by
  unfold dicW at h
  split at h
  · cases h
    cases r with
    | d r => cases r with
      | dic h r => exact ⟨_, _, _, rfl, h, r⟩
  · cases h
def iItemsF (f : EF) : IF := fun Γ M => bnd (f Γ M) fun w M1 => (dicW w).map fun ds => .ok (itemsD ds) M1
theorem di_items (ho : DE X Wx Z o f) (hbase : attributeBase o "items" X.env (eval o X.env) = eval o X.env := by rfl) (hline : (apos.endLine == cpos.line) = true := by rfl) : DI X Wx Z (.Tuple elts kk tpos) (.Call (.Attribute o "items" apos) [] [] cpos) (iItemsF f) := by
  obtain ⟨ta, pa, oa⟩ := ho
  refine ⟨_, pi_items pa hbase hline, fun ι M Γ σ G H out R s e q => ?_⟩
  refine oa.then s e (fun x M' ex => by subst ex; exact q) fun w M1 e1 ι1 G1 H1 v s1 x1 r1 => ?_
  obtain ⟨ds, h, rfl⟩ := Option.map_eq_some_iff.mp e1
  obtain ⟨a, ob, vs, rfl, h1, r2⟩ := dicW_rep r1 h
  exact ⟨a, ob, vs, rfl, s1.cr.sub _ _ h1, q ι1 G1 H1 _ s1 x1 (jok_items h1 r2)⟩
def iKeysF (f : EF) : IF := fun Γ M => bnd (f Γ M) fun w M1 => (dicW w).map fun ds => .ok (ds.map fun kv => kdD kv.1) M1
theorem di_keys (ho : DE X Wx Z o f) : DI X Wx Z tg o (iKeysF f) := by
  obtain ⟨ta, pa, oa⟩ := ho
  refine ⟨_, pi_keys pa, fun ι M Γ σ G H out R s e q => ?_⟩
  refine oa.then s e (fun x M' ex => by subst ex; exact q) fun w M1 e1 ι1 G1 H1 v s1 x1 r1 => ?_
  obtain ⟨ds, h, rfl⟩ := Option.map_eq_some_iff.mp e1
  obtain ⟨a, ob, vs, rfl, h1, r2⟩ := dicW_rep r1 h
  exact ⟨a, ob, rfl, .inl ⟨vs, s1.cr.sub _ _ h1, q ι1 G1 H1 _ s1 x1 (jok_keys h1 r2)⟩⟩
def iValsF (f : EF) : IF := fun Γ M => bnd (f Γ M) fun w M1 => (dicW w).map fun ds => .ok (ds.map fun kv => kv.2) M1
theorem di_vals (ho : DE X Wx Z o f) (hbase : attributeBase o "values" X.env (eval o X.env) = eval o X.env := by rfl) (hline : (apos.endLine == cpos.line) = true := by rfl) : DI X Wx Z tg (.Call (.Attribute o "values" apos) [] [] cpos) (iValsF f) := by
  obtain ⟨ta, pa, oa⟩ := ho
  refine ⟨_, pi_values pa hbase hline, fun ι M Γ σ G H out R s e q => ?_⟩
  refine oa.then s e (fun x M' ex => by subst ex; exact q) fun w M1 e1 ι1 G1 H1 v s1 x1 r1 => ?_
  obtain ⟨ds, h, rfl⟩ := Option.map_eq_some_iff.mp e1
  obtain ⟨a, ob, vs, rfl, h1, r2⟩ := dicW_rep r1 h
  exact ⟨a, ob, vs, rfl, s1.cr.sub _ _ h1, q ι1 G1 H1 _ s1 x1 (jok_vals h1 r2)⟩
end
end DL

set_option Elab.async false
set_option linter.all false
set_option maxRecDepth 100000
set_option autoImplicit false
set_option maxHeartbeats 1000000
namespace DL
open PySem PySem.Spec PyProof.Rows L2
variable [PWd]
variable {K : PySem.W.Frag} {G G' G'' H H' H'' : Hp} {Z : Addr → Prop} {ι ι' ι'' : List Addr} {M M' : Store} {Γ Γ' : Env} {σ σ' : L2.St}
section
variable {P : Program} {w : World} {mg : Str → Option Value} {base : Heap} {Kc : PySem.W.Frag}
variable {X : Cx} {N : List Str} {sc : Scope} {Wx : WX} {k : Nat} {a b e o tg : Expr} {es elts : List Expr} {f g : EF} {af : AF} {pos p apos cpos tpos : Pos} {kk : Nat}
/-! ### list(d.values()) -/
theorem kv_snd : ∀ {kvs : List (Key × V)} {vs : List (Key × Value)}, KV kvs vs → Vals (kvs.map (·.2)) (vs.map (·.2))
  | _, _, .nil => .nil
  | _, _, .cons a t => .cons a.2 (kv_snd t)
def tListVals (te : TE) : TE := fun σ H Q => te σ H fun x H1 => ∃ a kvs, x = .ref a ∧ Rd H1 a (.dK kvs) ∧ ∀ p, H1 p = none → Q (.ref p) (upd H1 p (.lst (kvs.map (·.2))))
theorem pe_listVals {te : TE} (hc : X.calm = true) (he : PE X e te) (hg : Gl X "list") (hm : X.mg "list" = none) (hbase : attributeBase e "values" X.env (eval e X.env) = eval e X.env := by rfl) (hline : (apos.endLine == cpos.line) = true := by rfl)
    (hs : starEach [.Call (.Attribute e "values" apos) [] [] cpos] X.env = (false, eval (.Call (.Attribute e "values" apos) [] [] cpos) X.env) :: starEach [] X.env := by rfl) :
    PE X (.Call (.Name "list" p) [.Call (.Attribute e "values" apos) [] [] cpos] [] pos) (tListVals te) := by
  refine ⟨fun pins s σ H Q I hq => ?_⟩
  refine wpAny_Call_Name_kw (ld_blt I hg hm boot_list ?_)
  refine PyProof.Rows.callWith_type1 ?_ hs rfl
  rw [hs]
  show wpAny _ _ (spliced ((false, eval (.Call (.Attribute e "values" apos) [] [] cpos) X.env) :: backTo pos (starEach [] X.env))) _ _ s
  refine Calls.spliced_cons ?_
  refine wpAny_Call_method (T := "dict") (id := "dict.values") hbase rfl hline F.plainAttrs_dict F.slot_dict_values F.type_dict_values (thn (he.run pins s σ H _ I hq) fun u s1 ⟨x, H1, I1, rx, d, kvs, ex, hd, q⟩ => ?_)
  subst ex
  obtain rfl : u = Value.ref d := rx
  obtain ⟨hz, hs0, vs, kv, hdo⟩ := dk_rd I1.hok hd
  obtain ⟨ep, hat⟩ := hdo.dictAt
  have lk : kvs.length = vs.length := Paired.length kv
  have I2 : Inv X pins σ H1 { s1 with heap := s1.heap.push { cls := .type "dict_values", data := .fields #[.ref d] } } := I1.kept (t' := s1.toks) fun b ob q => Heap.get?_push_of_some _ q
  refine ⟨hdo.typeIs, hdo.mapOf.noDict, ?_⟩
  show wpAny _ _ (callWith cpos (.builtin "dict.values") [.ref d] [] []) _ X.xe s1
  refine method_meetsIn F.slot_dict_values F.entry_dict_values rfl (PySem.evalArgs_none ⟨rfl, hdo.typeIs, F.args_dict_values_1 _, _, meets_dict_values (mixKind X.prog X.w) d hs0, ⟨vs, hdo⟩, ?_⟩)
  refine Calls.spliced_nil ?_
  refine PySem.W.kdl_call (PySem.W.kdl_values (knd := mixKind X.prog X.w) (kvs := vs) (ep := ep) (d := d)) (I1.ok.hd hc) ⟨⟨_, Heap.get?_push_size _ rfl, rfl, rfl⟩, hat.push _⟩ (by omega) fun h' tk acc c hk hS hacc => ?_
  have e1 : acc.toList = vs.map (·.2) := PySem.W.kdl_vals_eq acc.toList (by rw [Array.length_toList]; exact hacc.1) fun j v e => hacc.2 j v (by rw [← Array.getElem?_toList]; exact e)
  have nw : ObjOk X.prog X.w (upd H1 (s1.heap.push { cls := .type "dict_values", data := .fields #[.ref d] }).objs.size (.lst (kvs.map (·.2)))) h' (s1.heap.push { cls := .type "dict_values", data := .fields #[.ref d] }).objs.size (.lst (kvs.map (·.2))) :=
    ⟨by rw [List.length_map]; exact hz, vs.map (·.2), c, kv_snd kv, by rw [← e1, Array.toArray_toList]; exact hS⟩
  exact ⟨.ref _, _, I2.laid (t' := tk) hk (Nat.le_refl _) nw, rfl, q _ (I2.hok.fresh (Nat.le_refl _))⟩
theorem RepP.snd {vs : List (Key × V)} {ds : List (Key × D)} (r : RepP K G vs ds) : RepL K G (vs.map (·.2)) (ds.map (·.2)) := by
  induction vs generalizing ds with
  | nil => cases r; exact .nil
  | cons v vs ih => cases r with
    | cons a t => exact .cons a (ih t)
def valsOf (x : D) : Option D := match x with
  | .dic kvs => some (.lst (kvs.map (·.2)))
  | _ => none
theorem de_listVals (C : Ctx P w Kc mg base X N sc Wx k) (ha : DE X Wx Z e f) (hm : mg "list" = none) (hg : sc.names.lookup ("list" : Str) = some .globalImplicit := by rfl) (hbase : attributeBase e "values" X.env (eval e X.env) = eval e X.env := by rfl) (hline : (apos.endLine == cpos.line) = true := by rfl)
    (hs : starEach [.Call (.Attribute e "values" apos) [] [] cpos] X.env = (false, eval (.Call (.Attribute e "values" apos) [] [] cpos) X.env) :: starEach [] X.env := by rfl) :
    DE X Wx Z (.Call (.Name "list" p) [.Call (.Attribute e "values" apos) [] [] cpos] [] pos) (eUn valsOf f) := by
  obtain ⟨ta, pa, oa⟩ := ha
  refine ⟨_, pe_listVals C.calm pa (C.g hg) (C.m hm) hbase hline hs, fun ι M Γ σ G H out Q s e q => ?_⟩
  refine oa.then s e (EPost.x q) fun w M1 e1 ι1 G1 H1 v s1 x1 r1 => ?_
  obtain ⟨d, h1, rfl⟩ := Option.map_eq_some_iff.mp e1
  obtain ⟨dx, h2, h1⟩ := Option.bind_eq_some_iff.mp h1
  unfold valsOf at h1
  split at h1
  · cases h1
    obtain ⟨a, vs, rfl, h3, rp⟩ := (s1.cr.rb r1 h2).asP s1.cr.sub
    refine ⟨a, vs, rfl, h3, fun p hp => ?_⟩
    have gw : Grow G1 H1 (upd G1 p (.lst (vs.map (·.2)))) (upd H1 p (.lst (vs.map (·.2)))) := Grow.one s1.cr.sub hp _
    exact q ι1 _ _ _ (s1.grow gw) (x1.trans (s1.cr.growE gw)) (.d (.lst upd_same (rp.snd.mono gw.g)))
  · cases h1
/-! ### list(d.items()), a live dict -/
theorem new_tups : ∀ {ts : List Addr} {kvs : List (Key × V)} {ds : List (Key × D)} {G : Hp}, RepP K G kvs ds → Paired (fun (t : Addr) (q : Key × V) => H' t = some (.tup [kV q.1, q.2])) ts kvs → (∀ b o, G b = some o → H' b = some o) → RepL K H' (ts.map V.ref) (itemsD ds)
  | _, _, _, _, .nil, .nil, _ => .nil
  | _, _, _, _, .cons r t, .cons h u, sm => .cons (.tup (SqT.of h) (.cons (Rep.kd _) (.cons (r.mono sm) .nil))) (new_tups t u sm)
def itemsOf (x : D) : Option (List D) := match x with
  | .dic kvs => some (itemsD kvs)
  | _ => none
/-- list(d.items()) of a dict that may be changed later -/
def eLItems (f : EF) : EF := fun Γ M => bnd (f Γ M) fun w M1 => match w with
      | .r i => (match M1[i]? with
        | some (.dic kvs) => some (.ok (.d (.lst (itemsD kvs))) M1)
        | _ => none)
      | _ => none
theorem de_listItems (C : Ctx P w Kc mg base X N sc Wx k) (ha : DE X Wx Z e f) (hm : mg "list" = none) (hg : sc.names.lookup ("list" : Str) = some .globalImplicit := by rfl) (hbase : attributeBase e "items" X.env (eval e X.env) = eval e X.env := by rfl) (hline : (apos.endLine == cpos.line) = true := by rfl)
    (hs : starEach [.Call (.Attribute e "items" apos) [] [] cpos] X.env = (false, eval (.Call (.Attribute e "items" apos) [] [] cpos) X.env) :: starEach [] X.env := by rfl) :
    DE X Wx Z (.Call (.Name "list" p) [.Call (.Attribute e "items" apos) [] [] cpos] [] pos) (eLItems f) := by
  obtain ⟨ta, pa, oa⟩ := ha
  refine ⟨_, LiI.pe_listItems C.calm pa (C.g hg) (C.m hm) boot_list hbase hline hs, fun ι M Γ σ G H out Q s e q => ?_⟩
  refine oa.then s e (EPost.x q) fun w M1 e1 ι1 G1 H1 v s1 x1 r1 => ?_
  cases w with
  | d _ => cases e1
  | r i =>
    dsimp only at e1
    split at e1
    · rename_i kvs hc
      cases e1
      cases r1 with
      | @r ad _ hi =>
        obtain ⟨vs, hv, rp⟩ := cell_dic rfl (s1.cr.ct i ad _ hi hc)
        refine ⟨ad, vs, rfl, hv, fun H2 p ts sm hp hts hpt h2 pr => ?_⟩
        let G2 : Hp := fun b => if b ∈ ts ∨ b = p then H2 b else G1 b
        have gw : Grow G1 H1 G2 H2 := by
          refine ⟨sm, fun b o h => ?_, fun b o h => ?_, fun b o h1 h2 => ?_⟩
          · show (if b ∈ ts ∨ b = p then H2 b else G1 b) = some o
            split
            · exact sm _ _ (s1.cr.sub _ _ h)
            · exact h
          · have h : (if b ∈ ts ∨ b = p then H2 b else G1 b) = some o := h
            split at h
            · exact h
            · exact sm _ _ (s1.cr.sub _ _ h)
          · show (if b ∈ ts ∨ b = p then H2 b else G1 b) = none
            rw [if_neg]
            · exact h2
            · rintro (z | z)
              · rw [hts b z] at h1; cases h1
              · rw [z, hp] at h1; cases h1
        have pg : Paired (fun (t : Addr) (q : Key × V) => G2 t = some (.tup [kV q.1, q.2])) ts vs := by
          have go : ∀ {us : List Addr} {ws : List (Key × V)}, (∀ t ∈ us, t ∈ ts) → Paired (fun (t : Addr) (q : Key × V) => H2 t = some (.tup [kV q.1, q.2])) us ws → Paired (fun (t : Addr) (q : Key × V) => G2 t = some (.tup [kV q.1, q.2])) us ws := by
            intro us ws hin pr
            induction pr with
            | nil => exact .nil
            | cons h t ih => exact .cons ((if_pos (.inl (hin _ List.mem_cons_self))).trans h) (ih fun t ht => hin t (List.mem_cons_of_mem _ ht))
          exact go (fun t h => h) pr
        have pG : G2 p = some (.lst (ts.map V.ref)) := by
          show (if p ∈ ts ∨ p = p then H2 p else G1 p) = _
          rw [if_pos (.inr rfl)]
          exact h2
        exact q ι1 G2 H2 _ (s1.grow gw) (x1.trans (s1.cr.growE gw)) (.d (.lst pG (new_tups rp pg gw.g)))
    · cases e1
/-! ### dict(pairs), dict(d) -/
/-- .. that make a new dict -/
def CallDc (X : Cx) (r : List V → Hp → VK → Prop) (h : List D → Option (List (Key × D))) : Prop := ∀ (G H : Hp) (xs : List V) (as : List D) (ds : List (Key × D)) (Q : VK), Same G H → RBs X.K G H xs as → h as = some ds →
  (∀ p vs G' H', Grow G H G' H' → RepP X.K G' vs ds → H' p = none → Q (.ref p) (upd H' p (.dK vs))) → r xs H Q
def eCallDc (h : List D → Option (List (Key × D))) (f : AF) : EF := fun Γ M => bnd (f Γ M) fun ws M1 => ((rds M1 ws).bind h).map fun ds => .ok (.r M1.length) (M1 ++ [.dic ds])
theorem EOk_callDc {r : List V → Hp → VK → Prop} {h : List D → Option (List (Key × D))} {ta : TA} (hs : CallDc X r h) (oa : AOk X Wx Z ta af) : EOk X Wx Z (tCB r ta) (eCallDc h af) := fun ι M Γ σ G H out Q s e q => by
  refine oa.then s e (EPost.x q) fun ws M1 e1 _ ι1 G1 H1 vs s1 x1 r1 => ?_
  obtain ⟨d, h1, rfl⟩ := Option.map_eq_some_iff.mp e1
  obtain ⟨ds, h2, h1⟩ := Option.bind_eq_some_iff.mp h1
  refine hs G1 H1 vs ds d Q s1.cr.sub (rds_rbs s1.cr r1 h2) h1 fun p us G' H' gw rl hp => ?_
  obtain ⟨s2, x2⟩ := (s1.grow gw).newCell hp (CellOk.dic rl) (fun z => nomatch z)
  exact q _ _ _ _ s2 ((x1.trans (s1.cr.growE gw)).trans x2) (.r (by rw [← s1.cr.ln]; simp))
def dictOf : List D → Option (List (Key × D))
  | [.dic kvs] => some kvs
  | [.lst xs] => (pairsO xs).map dictD
  | _ => none
theorem pairs_rep {ds : List D} : ∀ {vs : List V} {ps : List (Key × D)}, RepL K G vs ds → pairsO ds = some ps → ∃ (as : List Addr) (kvs : List (Key × V)), vs = as.map V.ref ∧ Paired (fun a kv => SqT K G a [kV kv.1, kv.2]) as kvs ∧ RepP K G kvs ps := by
  induction ds with
  | nil => intro vs ps r h; cases r; cases h; exact ⟨[], [], rfl, .nil, .nil⟩
  | cons d ds ih =>
    intro vs ps r h
    obtain ⟨p, e1, h⟩ := Option.bind_eq_some_iff.mp h
    obtain ⟨l, e2, rfl⟩ := Option.map_eq_some_iff.mp h
    cases r with
    | cons a t =>
      obtain ⟨as, kvs, rfl, h1, h2⟩ := ih t e2
      unfold pairO at e1
      split at e1
      · obtain ⟨kk, e3, rfl⟩ := Option.map_eq_some_iff.mp e1
        cases a with
        | tup hs rl =>
          cases rl with
          | cons ra rt =>
            cases rt with
            | cons rb rt =>
              cases rt
              have := ra.key e3
              subst this
              exact ⟨_ :: as, (kk, _) :: kvs, rfl, .cons hs h1, .cons rb h2⟩
      · cases e1
theorem paired_seqT {as : List Addr} {kvs : List (Key × V)} (s : Same G H) (h : Paired (fun a (kv : Key × V) => SqT K G a [kV kv.1, kv.2]) as kvs) : Paired (fun a (kv : Key × V) => SqT K H a [kV kv.1, kv.2]) as kvs := by
  induction h with
  | nil => exact .nil
  | cons a t ih => exact .cons (Same.seqT s a) ih
def rDictA (K : PySem.W.Frag) : List V → Hp → VK → Prop := fun xs H Q => (∃ (a : Addr) (ps : List Addr) (kvs : List (Key × V)), xs = [.ref a] ∧ SqL K H a (ps.map V.ref) ∧ Paired (fun p kv => SqT K H p [kV kv.1, kv.2]) ps kvs ∧
    ∀ p, H p = none → Q (.ref p) (upd H p (.dK (mergeK [] kvs)))) ∨ ∃ (a : Addr) (kvs : List (Key × V)), xs = [.ref a] ∧ Rd H a (.dK kvs) ∧ ∀ p, H p = none → Q (.ref p) (upd H p (.dK kvs))
theorem s_dict : CallDc X (rDictA X.K) dictOf := fun G H xs as ds Q sm rx e q => by
  unfold dictOf at e
  split at e
  · cases e
    obtain ⟨v, rfl, r⟩ := rb1 rx
    obtain ⟨l, vs, rfl, h1, rp⟩ := r.asP sm
    exact .inr ⟨l, vs, rfl, h1, fun p hp => q p vs G H (Grow.refl sm) rp hp⟩
  · obtain ⟨ps, h1, rfl⟩ := Option.map_eq_some_iff.mp e
    obtain ⟨v, rfl, r⟩ := rb1 rx
    obtain ⟨l, vs, rfl, h2, rl⟩ := r.asL sm
    obtain ⟨as, kvs, rfl, h3, rp⟩ := pairs_rep rl h1
    exact .inl ⟨l, as, kvs, rfl, SqL.of h2, paired_seqT sm h3, fun p hp => q p _ G H (Grow.refl sm) (rp.merge .nil) hp⟩
  · cases e
theorem de_dictOf (C : Ctx P w Kc mg base X N sc Wx k) (hm : mg "dict" = none) (ha : DA X Wx Z [e] af) (hg : sc.names.lookup ("dict" : Str) = some .globalImplicit := by rfl)
    (he : starEach [e] X.env = (false, eval e X.env) :: starEach [] X.env := by rfl) (hpl : (backTo pos (starEach [] X.env)).any (·.1) = false := by rfl) : DE X Wx Z (.Call (.Name "dict" p) [e] [] pos) (eCallDc dictOf af) := by
  obtain ⟨⟨ta, pa, oa⟩, len⟩ := ha
  exact ⟨_, pe_callTy (CallR.or (call_dictP C.calm) call_dictD) (C.g hg) (C.m hm) boot_dict pa (by decide) (by decide) he hpl, EOk_callDc s_dict oa⟩
/-! ### list(d): the keys -/
def keysOf : List D → Option (List D)
  | [.dic kvs] => some (kvs.map fun kv => kdD kv.1)
  | _ => none
theorem RepP.kds {vs : List (Key × V)} {ds : List (Key × D)} (r : RepP K G vs ds) : RepL K G (vs.map fun kv => kV kv.1) (ds.map fun kv => kdD kv.1) := by
  induction vs generalizing ds with
  | nil => cases r; exact .nil
  | cons v vs ih => cases r with
    | cons a t => exact .cons (Rep.kd _) (ih t)
theorem s_listKeys : CallL X (fun xs H Q => ∃ (a : Addr) (kvs : List (Key × V)), xs = [V.ref a] ∧ Rd H a (.dK kvs) ∧ ∀ p, H p = none → Q (.ref p) (upd H p (.lst (kvs.map fun kv => kV kv.1)))) keysOf := fun G H xs as ds Q sm rx e q => by
  unfold keysOf at e
  split at e
  · cases e
    obtain ⟨v, rfl, r⟩ := rb1 rx
    obtain ⟨l, vs, rfl, h1, rp⟩ := r.asP sm
    exact ⟨l, vs, rfl, h1, fun p hp => q p _ G H (Grow.refl sm) rp.kds hp⟩
  · cases e
end
end DL

set_option Elab.async false
set_option linter.all false
set_option maxRecDepth 100000
set_option autoImplicit false
set_option maxHeartbeats 1000000
namespace DL
open PySem PySem.Spec PyProof.Rows L2
variable [PWd]
/-! ### the order of data: ints, texts, tuples of these -/
def strLt (x y : Str) : Bool := decide (x.cps.toList < y.cps.toList)
def cmp1 : D → D → Option Bool
  | .int i, .int j => some (decide (i < j))
  | .str x, .str y => some (strLt x y)
  | _, _ => none
def cmpL : List D → List D → Option Bool
  | [], [] => some false
  | [], _ :: _ => some true
  | _ :: _, [] => some false
  | x :: xs, y :: ys => if eqD x y then cmpL xs ys else cmp1 x y
def cmpD : D → D → Option Bool
  | .tup xs, .tup ys => cmpL xs ys
  | x, y => cmp1 x y
/-! the same data -/
mutual
def sameD : D → D → Bool
  | .non, .non => true
  | .bl a, .bl b => a == b
  | .int i, .int j => decide (i = j)
  | .str x, .str y => decide (x = y)
  | .tup xs, .tup ys => sameL xs ys
  | .lst xs, .lst ys => sameL xs ys
  | _, _ => false
def sameL : List D → List D → Bool
  | [], [] => true
  | x :: xs, y :: ys => sameD x y && sameL xs ys
  | _, _ => false
end
mutual
theorem sameD_eq : ∀ {x y : D}, sameD x y = true → x = y
  | .non, .non, _ => rfl
  | .bl a, .bl b, h => by rw [sameD] at h; rw [eq_of_beq h]
  | .int i, .int j, h => by rw [sameD] at h; rw [of_decide_eq_true h]
  | .str i, .str j, h => by rw [sameD] at h; rw [of_decide_eq_true h]
  | .tup xs, .tup ys, h => by rw [sameD] at h; rw [sameL_eq h]
  | .lst xs, .lst ys, h => by rw [sameD] at h; rw [sameL_eq h]
  | .non, .bl _, h | .non, .int _, h | .non, .str _, h | .non, .tup _, h | .non, .lst _, h | .non, .rol _, h | .non, .dic _, h | .non, .ins _ _, h | .non, .cls _, h | .non, .ty _, h | .non, .set _, h | .non, .exv _ _, h => by simp [sameD] at h
  | .bl _, .non, h | .bl _, .int _, h | .bl _, .str _, h | .bl _, .tup _, h | .bl _, .lst _, h | .bl _, .rol _, h | .bl _, .dic _, h | .bl _, .ins _ _, h | .bl _, .cls _, h | .bl _, .ty _, h | .bl _, .set _, h | .bl _, .exv _ _, h => by simp [sameD] at h
  | .int _, .non, h | .int _, .bl _, h | .int _, .str _, h | .int _, .tup _, h | .int _, .lst _, h | .int _, .rol _, h | .int _, .dic _, h | .int _, .ins _ _, h | .int _, .cls _, h | .int _, .ty _, h | .int _, .set _, h | .int _, .exv _ _, h => by simp [sameD] at h
  | .str _, .non, h | .str _, .bl _, h | .str _, .int _, h | .str _, .tup _, h | .str _, .lst _, h | .str _, .rol _, h | .str _, .dic _, h | .str _, .ins _ _, h | .str _, .cls _, h | .str _, .ty _, h | .str _, .set _, h | .str _, .exv _ _, h => by simp [sameD] at h
  | .tup _, .non, h | .tup _, .bl _, h | .tup _, .int _, h | .tup _, .str _, h | .tup _, .lst _, h | .tup _, .rol _, h | .tup _, .dic _, h | .tup _, .ins _ _, h | .tup _, .cls _, h | .tup _, .ty _, h | .tup _, .set _, h | .tup _, .exv _ _, h => by simp [sameD] at h
  | .lst _, .non, h | .lst _, .bl _, h | .lst _, .int _, h | .lst _, .str _, h | .lst _, .tup _, h | .lst _, .rol _, h | .lst _, .dic _, h | .lst _, .ins _ _, h | .lst _, .cls _, h | .lst _, .ty _, h | .lst _, .set _, h | .lst _, .exv _ _, h => by simp [sameD] at h
  | .rol _, y, h => by cases y <;> simp [sameD] at h
  | .dic _, y, h => by cases y <;> simp [sameD] at h
  | .ins _ _, y, h => by cases y <;> simp [sameD] at h
  | .cls _, y, h => by cases y <;> simp [sameD] at h
  | .ty _, y, h => by cases y <;> simp [sameD] at h
  | .set _, y, h => by cases y <;> simp [sameD] at h
  | .exv _ _, y, h => by cases y <;> simp [sameD] at h
theorem sameL_eq : ∀ {x y : List D}, sameL x y = true → x = y
  | [], [], _ => rfl
  | x :: xs, y :: ys, h => by
    rw [sameL, Bool.and_eq_true] at h
    rw [sameD_eq h.1, sameL_eq h.2]
  | [], _ :: _, h => by simp [sameL] at h
  | _ :: _, [], h => by simp [sameL] at h
end
/-- how many are below -/
def rnk (ds : List D) (d : D) : Nat := (ds.filter fun e => cmpD e d == some true).length
def insR (r : D → Nat) (x : D) : List D → List D
  | [] => [x]
  | y :: l => if r x ≤ r y then x :: y :: l else y :: insR r x l
def isortR (r : D → Nat) : List D → List D
  | [] => []
  | x :: l => insR r x (isortR r l)
def isI : D → Bool
  | .int _ => true
  | _ => false
def isS : D → Bool
  | .str _ => true
  | _ => false
/-- a tuple that begins so -/
def isT1 (p : D → Bool) : D → Bool
  | .tup (x :: _) => p x
  | _ => false
def kindOk (ds : List D) : Bool := ds.all isI || ds.all isS || ds.all (isT1 isI) || ds.all (isT1 isS)
def sortOk (ds : List D) : Bool := kindOk ds && (ds.all fun x => pl x && decide (dep x ≤ 100)) && ds.all fun x => ds.all fun y => cmpD x y == some (decide (rnk ds x < rnk ds y)) && (rnk ds x != rnk ds y || sameD x y)
def sortedL (ds : List D) : Option (List D) := if decide (ds.length < 2) || sortOk ds then some (isortR (rnk ds) ds) else none
def sortedD : List D → Option (List D)
  | [.lst xs] => sortedL xs
  | [.tup xs] => sortedL xs
  | _ => none
theorem insR_perm (r : D → Nat) (x : D) : ∀ l, (insR r x l).Perm (x :: l)
  | [] => List.Perm.refl _
  | y :: l => by
    unfold insR
    split
    · exact List.Perm.refl _
    · exact ((insR_perm r x l).cons y).trans (List.Perm.swap x y l)
theorem isortR_perm (r : D → Nat) : ∀ l, (isortR r l).Perm l
  | [] => List.Perm.refl _
  | x :: l => (insR_perm r x _).trans ((isortR_perm r l).cons x)
theorem insR_srt {r : D → Nat} {x : D} : ∀ {l : List D}, l.Pairwise (fun a b => r a ≤ r b) → (insR r x l).Pairwise fun a b => r a ≤ r b
  | [], _ => List.pairwise_singleton _ _
  | y :: l, h => by
    unfold insR
    split
    · rename_i hx
      refine List.pairwise_cons.mpr ⟨fun z hz => ?_, h⟩
      rcases List.mem_cons.mp hz with rfl | hz
      · exact hx
      · exact Nat.le_trans hx ((List.pairwise_cons.mp h).1 z hz)
    · rename_i hx
      refine List.pairwise_cons.mpr ⟨fun z hz => ?_, insR_srt (List.pairwise_cons.mp h).2⟩
      rcases List.mem_cons.mp ((insR_perm r x l).mem_iff.mp hz) with rfl | hz
      · omega
      · exact (List.pairwise_cons.mp h).1 z hz
theorem isortR_srt (r : D → Nat) : ∀ l : List D, (isortR r l).Pairwise fun a b => r a ≤ r b
  | [] => List.Pairwise.nil
  | x :: l => insR_srt (isortR_srt r l)
/-- two sorted orders of the same items -/
theorem sorted_uniq {r : D → Nat} : ∀ {a b : List D}, a.Perm b → a.Pairwise (fun x y => r x ≤ r y) → b.Pairwise (fun x y => r x ≤ r y) → (∀ x ∈ a, ∀ y ∈ a, r x = r y → x = y) → a = b
  | [], b, p, _, _, _ => (List.Perm.nil_eq p)
  | x :: a, [], p, _, _, _ => absurd p.length_eq (by simp)
  | x :: a, y :: b, p, ha, hb, ht => by
    have hx : x ∈ y :: b := p.mem_iff.mp List.mem_cons_self
    have hy : y ∈ x :: a := p.mem_iff.mpr List.mem_cons_self
    have e : x = y := by
      refine ht x List.mem_cons_self y hy (Nat.le_antisymm ?_ ?_)
      · rcases List.mem_cons.mp hy with rfl | hy
        · exact Nat.le_refl _
        · exact (List.pairwise_cons.mp ha).1 y hy
      · rcases List.mem_cons.mp hx with rfl | hx
        · exact Nat.le_refl _
        · exact (List.pairwise_cons.mp hb).1 x hx
    subst e
    rw [sorted_uniq (List.Perm.cons_inv p) (List.pairwise_cons.mp ha).2 (List.pairwise_cons.mp hb).2 fun x hx y hy => ht x (List.mem_cons_of_mem _ hx) y (List.mem_cons_of_mem _ hy)]

/-! ### a sort at any order of items -/
section
variable {prog : Program} {w : World} {A : Around} {E : Value → Shared → Prop} {s : Shared}
theorem sorted_seq {l : Addr} {o : Obj} {T : String} {vs : List Value} {n : Nat} {ltv : Value → Value → Bool} {Q : Value → Shared → Prop} (O : SrtO.Swo ltv) (hT : T = "list" ∨ T = "tuple") (ho : s.heap.get? l = some o) (hc : o.cls = .type T) (hd : o.data = .seq vs.toArray n) (hz : vs.length ≤ sizeLine)
    (hS : 2 ≤ vs.length → ∀ (h1 : Heap) (a : Addr), (∀ b u, s.heap.get? b = some u → b ≠ a ∧ h1.get? b = some u) → SrtO.SortableO prog w A.in1.in1 { s with heap := h1 } a vs ltv)
    (h : ∀ (h' : Heap) (d : Addr) (out : List Value), SrtO.Srtd ltv out → SrtO.Stb ltv out vs → (∀ b u, s.heap.get? b = some u → h'.get? b = some u) → s.heap.get? d = none → (∃ m, h'.get? d = some (seqObj "list" out.toArray m)) → Q (.ref d) { s with heap := h' }) :
    wpAny (model prog w) A (call (.builtin "sorted") [.ref l]) Q E s := by
  refine Calls.call_function_entry kind_sorted plain_sorted entry_sorted (args_sorted1 _) ?_
  unfold Builtin.«sorted»
  refine wpAny_bind (m := checkCount "sorted" 1 1 _) (wpAny_pure ?_)
  refine wpAny_bind (wpAny_collect_seq l hT ho hc hd (fun h1 k1 => ?_) (by simpa using hz))
  refine wpAny_bind (wpAny_newList ?_ (by simpa using hz))
  have e0 : vs.toArray.toList = vs := by simp
  rw [e0]
  have hoL : (h1.push (seqObj "list" vs.toArray 0)).get? h1.objs.size = some (seqObj "list" vs.toArray 0) := Heap.get?_push_size _ rfl
  have keep : ∀ b u, s.heap.get? b = some u → b ≠ h1.objs.size ∧ (h1.push (seqObj "list" vs.toArray 0)).get? b = some u := fun b u q => by
    have q1 := k1 b u q
    exact ⟨Nat.ne_of_lt (Heap.lt_size q1), Heap.get?_push_of_some _ q1⟩
  show wpAny (model prog w) _ _ _ _ { s with heap := h1.push (seqObj "list" vs.toArray 0) }
  refine wpAny_bind (wpAny_holding (wpAny_call_entry slot_list_sort ⟨_, hoL, rfl⟩ entry_list_sort (SrtO.list_sort_ord O hoL hz (fun h2 => hS h2 _ _ keep) fun out hs hb => ⟨_, rfl, ?_⟩) (args_list_sort _)))
  refine wpAny_pure ⟨_, rfl, h _ _ out hs hb (fun b u q => ?_) ?_ (sortedHeap_at hoL)⟩
  · obtain ⟨q1, q2⟩ := keep b u q
    rw [sortedHeap_old q1 (Heap.lt_size q2)]
    exact q2
  · cases hu : s.heap.get? h1.objs.size with
    | none => rfl
    | some u => exact absurd (Heap.lt_size (k1 _ _ hu)) (Nat.lt_irrefl _)

/-! ### how two items compare -/
theorem cmp1_lt {pins : List (Addr × Obj)} {X : Cx} {σ : L2.St} {H : Hp} {a b : D} {x y : V} {v u : Value} {k f : Bool} {Q : Bool → Shared → Prop} (h : cmp1 a b = some k) (ra : Rep X.K H x a) (rb : Rep X.K H y b) (rx : RelV x v) (ry : RelV y u) (q : Q k s) : wpAny (model prog w) A (oneLt' f v u) Q E s := by
  unfold cmp1 at h
  split at h
  · cases ra; cases rb; cases h
    obtain ⟨t, rfl⟩ := rx
    obtain ⟨t', rfl⟩ := ry
    exact oneLt_any_int q
  · cases ra; cases rb; cases h
    obtain ⟨t, rfl⟩ := rx
    obtain ⟨t', rfl⟩ := ry
    exact oneLt_any_str q
  · cases h
end
section
variable {X : Cx} {pins : List (Addr × Obj)} {σ : L2.St} {H : Hp} {s : Shared} {A : Around} {E : Value → Shared → Prop}
theorem cmpL_lt (I : Inv X pins σ H s) (hu : A.units + 100 < cLine) {b : Bool} {Q : Bool → Shared → Prop} : ∀ {xs ys : List D} {vs us : List V} {its its' : List Value} {k fin : Bool} {i : Nat}, cmpL xs ys = some k → plL xs = true → plL ys = true → depL xs ≤ 100 → RepL X.K H vs xs → RepL X.K H us ys → Vals vs its → Vals us its' →
    fin = decide (its.length < its'.length) → Q k s → PySem.W.KatLex X.prog X.w A b fin Q (its.zip its') i s
  | [], [], _, _, _, _, k, fin, i, h, _, _, _, .nil, .nil, .nil, .nil, hf, q => by
    cases h
    subst hf
    exact PySem.W.kat_nil q
  | [], _ :: _, _, _, _, _, k, fin, i, h, _, _, _, .nil, .cons _ _, .nil, .cons _ _, hf, q => by
    cases h
    have e : fin = true := by rw [hf]; exact decide_eq_true (Nat.succ_pos _)
    subst e
    exact PySem.W.kat_nil q
  | _ :: _, [], _, _, _, _, k, fin, i, h, _, _, _, .cons _ _, .nil, .cons _ _, .nil, hf, q => by
    cases h
    have e : fin = false := by rw [hf]; exact decide_eq_false (Nat.not_lt_zero _)
    subst e
    exact PySem.W.kat_nil q
  | x :: xs, y :: ys, _, _, _, _, k, fin, i, h, px, py, hd, .cons ra ta, .cons rb tb, .cons rv tv, .cons ru tu, hf, q => by
    rw [plL, Bool.and_eq_true] at px py
    have d1 := depL_mem (xs := x :: xs) x List.mem_cons_self
    have d2 : depL xs ≤ 100 := by rw [depL] at hd; omega
    rw [cmpL] at h
    refine PySem.W.kat_cons (EqAt_rep I _ A x y _ _ _ _ (Nat.le_refl _) (by omega) px.1 py.1 ra rb rv ru X.prog X.w _ _ ?_)
    by_cases e : eqD x y = true
    · rw [if_pos e] at h
      rw [e]
      refine PySem.W.kat_yes (cmpL_lt I hu h px.2 py.2 d2 ta tb tv tu ?_ q)
      rw [hf, List.length_cons, List.length_cons]
      exact decide_eq_decide.mpr (Nat.succ_lt_succ_iff)
    · rw [if_neg e] at h
      rw [Bool.eq_false_iff.mpr e]
      exact PySem.W.kat_no (cmp1_lt (pins := pins) (σ := σ) h ra rb rv ru q)
end
/-! ### the order of values -/
theorem perm_lift {α β : Type} {f : α → β} : ∀ {l m : List β}, l.Perm m → ∀ {zs : List α}, zs.map f = m → ∃ zs' : List α, zs'.Perm zs ∧ zs'.map f = l := by
  intro l m p
  induction p with
  | nil => intro zs h; exact ⟨zs, List.Perm.refl _, h⟩
  | @cons x l m p ih =>
    intro zs h
    cases zs with
    | nil => cases h
    | cons z zs =>
      rw [List.map_cons] at h
      cases h
      obtain ⟨zs', p', e⟩ := ih rfl
      exact ⟨z :: zs', p'.cons z, by rw [List.map_cons, e]⟩
  | @swap x y l =>
    intro zs h
    cases zs with
    | nil => cases h
    | cons z zs => cases zs with
      | nil => cases h
      | cons z' zs =>
        rw [List.map_cons, List.map_cons] at h
        cases h
        exact ⟨z' :: z :: zs, List.Perm.swap _ _ _, rfl⟩
  | @trans l m n p q ih1 ih2 =>
    intro zs h
    obtain ⟨zs1, p1, e1⟩ := ih2 h
    obtain ⟨zs2, p2, e2⟩ := ih1 e1
    exact ⟨zs2, p2.trans p1, e2⟩
section
variable {X : Cx} {pins : List (Addr × Obj)} {σ : L2.St} {H G : Hp} {s : Shared} {A : Around} {E : Value → Shared → Prop}
/-- values with what they are -/
def tri (K : PySem.W.Frag) (G : Hp) (z : Value × V × D) : Prop := RelV z.2.1 z.1 ∧ Rep K G z.2.1 z.2.2
theorem tri_of {K : PySem.W.Frag} : ∀ {its : List Value} {xs : List V} {ds : List D}, Vals xs its → RepL K G xs ds → ∃ zs : List (Value × V × D), zs.map (·.1) = its ∧ zs.map (·.2.2) = ds ∧ ∀ z ∈ zs, tri K G z
  | _, _, _, .nil, .nil => ⟨[], rfl, rfl, fun z h => nomatch h⟩
  | u :: us, x :: xs, d :: ds, .cons r t, .cons a b => by
    obtain ⟨zs, h1, h2, h3⟩ := tri_of t b
    refine ⟨(u, x, d) :: zs, by rw [List.map_cons, h1], by rw [List.map_cons, h2], fun z hz => ?_⟩
    rcases List.mem_cons.mp hz with rfl | hz
    · exact ⟨r, a⟩
    · exact h3 z hz
theorem tri_to {K : PySem.W.Frag} : ∀ {zs : List (Value × V × D)}, (∀ z ∈ zs, tri K G z) → Vals (zs.map (·.2.1)) (zs.map (·.1)) ∧ RepL K G (zs.map (·.2.1)) (zs.map (·.2.2))
  | [], _ => ⟨.nil, .nil⟩
  | z :: zs, h => by
    obtain ⟨a, b⟩ := tri_to (zs := zs) fun y hy => h y (List.mem_cons_of_mem _ hy)
    obtain ⟨c, d⟩ := h z List.mem_cons_self
    exact ⟨.cons c a, .cons d b⟩
theorem rel_uniq {x y : V} {v : Value} (a : RelV x v) (b : RelV y v) : x = y := a.inj b
open Classical in
/-- how many are below a value -/
noncomputable def keyV (zs : List (Value × V × D)) (r : D → Nat) (v : Value) : Nat := if h : ∃ z ∈ zs, z.1 = v then r (choose h).2.2 else 0
theorem keyV_eq (I : Inv X pins σ H s) (sm : Same G H) {zs : List (Value × V × D)} {r : D → Nat} (h : ∀ z ∈ zs, tri X.K G z) (hp : ∀ z ∈ zs, pl z.2.2 = true) {z : Value × V × D} (hz : z ∈ zs) : keyV zs r z.1 = r z.2.2 := by
  unfold keyV
  have hex : ∃ y ∈ zs, y.1 = z.1 := ⟨z, hz, rfl⟩
  rw [dif_pos hex]
  obtain ⟨h1, h2⟩ := Classical.choose_spec hex
  obtain ⟨a1, a2⟩ := h _ h1
  obtain ⟨b1, b2⟩ := h _ hz
  rw [h2] at a1
  rw [← a1.inj b1] at b2
  rw [Rep_uniq I _ _ _ _ (Nat.le_refl _) (hp _ h1) (hp _ hz) (a2.mono sm) (b2.mono sm)]
theorem swo_key (r : Value → Nat) : SrtO.Swo fun x y => decide (r x < r y) :=
  ⟨fun x y h => decide_eq_false (by have := of_decide_eq_true h; omega), fun x y z h1 h2 => decide_eq_false (by have a := of_decide_eq_false h1; have b := of_decide_eq_false h2; omega)⟩
theorem allI {ds : List D} {p : D → Bool} {zs : List (Value × V × D)} (e : zs.map (·.2.2) = ds) (h : ds.all p = true) : ∀ z ∈ zs, p z.2.2 = true := fun z hz => List.all_eq_true.mp h _ (by rw [← e]; exact List.mem_map.mpr ⟨z, hz, rfl⟩)
theorem tri_int {z : Value × V × D} {K : PySem.W.Frag} (t : tri K G z) (h : isI z.2.2 = true) : ∃ i t, z.1 = .int i t ∧ z.2.2 = .int i := by
  obtain ⟨v, x, d⟩ := z
  obtain ⟨a, b⟩ := t
  cases b with
  | int i => obtain ⟨t, e⟩ := a; exact ⟨i, t, e, rfl⟩
  | _ => cases h
theorem tri_str {z : Value × V × D} {K : PySem.W.Frag} (t : tri K G z) (h : isS z.2.2 = true) : ∃ i t, z.1 = .str i t ∧ z.2.2 = .str i := by
  obtain ⟨v, x, d⟩ := z
  obtain ⟨a, b⟩ := t
  cases b with
  | str i => obtain ⟨t, e⟩ := a; exact ⟨i, t, e, rfl⟩
  | _ => cases h
theorem tri_tup {z : Value × V × D} (I : Inv X pins σ H s) (sm : Same G H) (t : tri X.K G z) {xs : List D} (h : z.2.2 = .tup xs) : ∃ a o its n vs, z.1 = .ref a ∧ s.heap.get? a = some o ∧ o.cls = .type "tuple" ∧ o.data = .seq its n ∧ Vals vs its.toList ∧ RepL X.K G vs xs := by
  obtain ⟨v, x, d⟩ := z
  obtain ⟨a, b⟩ := t
  have h : d = .tup xs := h
  subst h
  cases b with
  | tup hs rl =>
    cases a
    obtain ⟨its, r, ⟨o, h1, h2, n, h3⟩, _⟩ := I.tuple (Same.seqT sm hs)
    exact ⟨_, o, _, n, _, rfl, h1, h2, h3, by simpa using r, rl⟩
/-- the kind of the items, and how they compare -/
theorem kind_cmp (I : Inv X pins σ H s) (sm : Same G H) (hu : A.units + 100 < cLine) {zs : List (Value × V × D)} {ds : List D} (h : ∀ z ∈ zs, tri X.K G z) (e : zs.map (·.2.2) = ds) (h2 : 2 ≤ zs.length) (ok : sortOk ds = true) : ∃ κ,
    (∀ (Q : SortKind → Shared → Prop) (E : Value → Shared → Prop), Q κ s → wpAny (model X.prog X.w) A (keyKind' (zs.map (·.1)).toArray) Q E s) ∧
    SrtO.Cmp X.prog X.w A s κ (fun p => p.1 ∈ zs.map (·.1)) (SrtO.lt2 fun x y => decide (keyV zs (rnk ds) x < keyV zs (rnk ds) y)) := by
  unfold sortOk at ok
  rw [Bool.and_eq_true, Bool.and_eq_true] at ok
  obtain ⟨⟨hk, hp⟩, hc⟩ := ok
  have hpl : ∀ z ∈ zs, pl z.2.2 = true ∧ dep z.2.2 ≤ 100 := fun z hz => by
    have q := allI e hp z hz
    rw [Bool.and_eq_true] at q
    exact ⟨q.1, of_decide_eq_true q.2⟩
  have hcm : ∀ z ∈ zs, ∀ y ∈ zs, cmpD z.2.2 y.2.2 = some (decide (keyV zs (rnk ds) z.1 < keyV zs (rnk ds) y.1)) := fun z hz y hy => by
    have q := allI e (List.all_eq_true.mp hc z.2.2 (by rw [← e]; exact List.mem_map.mpr ⟨z, hz, rfl⟩)) y hy
    rw [Bool.and_eq_true] at q
    rw [keyV_eq I sm h (fun z hz => (hpl z hz).1) hz, keyV_eq I sm h (fun z hz => (hpl z hz).1) hy]
    exact eq_of_beq q.1
  have len : (zs.map (·.1)).length = zs.length := List.length_map ..
  have lift : ∀ κ, (∀ z ∈ zs, ∀ y ∈ zs, ∀ k, cmpD z.2.2 y.2.2 = some k → wpAny (model X.prog X.w) A (keyLt' κ z.1 y.1) (fun r s' => s' = s ∧ r = k) (fun _ _ => False) s) → SrtO.Cmp X.prog X.w A s κ (fun p => p.1 ∈ zs.map (·.1)) (SrtO.lt2 fun x y => decide (keyV zs (rnk ds) x < keyV zs (rnk ds) y)) := fun κ hh p q hp hq => by
    obtain ⟨z, hz, ez⟩ := List.mem_map.mp hp
    obtain ⟨y, hy, ey⟩ := List.mem_map.mp hq
    have r := hh z hz y hy _ (hcm z hz y hy)
    rw [ez, ey] at r
    exact r
  -- tuples, by their first items
  have tups : ∀ (T : Value) (p : D → Bool), (T == T) = true → (T != Value.type "tuple") = true → (∀ (z : Value × V × D), tri X.K G z → p z.2.2 = true → PySem.W.Looks (model X.prog X.w) s.heap (typeOf z.1) T) → ds.all (isT1 p) = true → ∃ κ,
      (∀ (Q : SortKind → Shared → Prop) (E : Value → Shared → Prop), Q κ s → wpAny (model X.prog X.w) A (keyKind' (zs.map (·.1)).toArray) Q E s) ∧
      SrtO.Cmp X.prog X.w A s κ (fun p => p.1 ∈ zs.map (·.1)) (SrtO.lt2 fun x y => decide (keyV zs (rnk ds) x < keyV zs (rnk ds) y)) := fun T p hT hT2 hl ht => by
    have hz : ∀ z ∈ zs, ∃ x xs, z.2.2 = .tup (x :: xs) ∧ p x = true := fun z hz => by
      have q := allI e ht z hz
      generalize z.2.2 = d at q
      unfold isT1 at q
      split at q
      · exact ⟨_, _, rfl, q⟩
      · cases q
    have fsts : ∀ (ys : List (Value × V × D)), (∀ z ∈ ys, z ∈ zs) → ∃ fs, PySem.W.KatTups s.heap (ys.map (·.1)) fs ∧ fs.length = ys.length ∧ ∀ f ∈ fs, PySem.W.Looks (model X.prog X.w) s.heap (typeOf f) T := by
      intro ys
      induction ys with
      | nil => exact fun _ => ⟨[], PySem.W.KatTups.nil, rfl, fun f hf => nomatch hf⟩
      | cons z ys ih =>
        intro hy
        obtain ⟨fs, k, hl2, hL⟩ := ih fun y hm => hy y (List.mem_cons_of_mem _ hm)
        obtain ⟨x, xs, ex, px⟩ := hz z (hy z List.mem_cons_self)
        obtain ⟨a, o, its, n, vs, ea, h1, h2, h3, rv, rl⟩ := tri_tup I sm (h z (hy z List.mem_cons_self)) ex
        cases rl with
        | @cons v vs _ _ rx rl =>
          obtain ⟨u, us, eu⟩ : ∃ u us, its.toList = u :: us := by
            cases q : its.toList with
            | nil => rw [q] at rv; cases rv
            | cons u us => exact ⟨u, us, rfl⟩
          rw [eu] at rv
          cases rv with
          | cons ru rv =>
            refine ⟨u :: fs, ?_, by simp [hl2], fun f hf => ?_⟩
            · rw [List.map_cons, ea]
              refine PySem.W.KatTups.cons h1 h2 h3 ?_ k
              have z := congrArg (fun l : List Value => l[0]?) eu
              simpa using z
            · rcases List.mem_cons.mp hf with rfl | hf
              · exact hl (f, v, x) ⟨ru, rx⟩ px
              · exact hL f hf
    obtain ⟨fs, k, hl2, hL⟩ := fsts zs fun z hz => hz
    refine ⟨_, fun Q E hq => PySem.W.kat_kind (T := T) k (by omega) hL hT hq, lift _ fun z hz' y hy' c hc => ?_⟩
    rw [hT2]
    obtain ⟨x, xs, ex, _⟩ := hz z hz'
    obtain ⟨x', xs', ey, _⟩ := hz y hy'
    obtain ⟨a, o, its, n, vs, ea, h1, h2, h3, rv, rl⟩ := tri_tup I sm (h z hz') ex
    obtain ⟨a', o', its', n', vs', ea', h1', h2', h3', rv', rl'⟩ := tri_tup I sm (h y hy') ey
    have p1 := hpl z hz'
    have p2 := hpl y hy'
    rw [ex] at hc p1
    rw [ey] at hc p2
    rw [ea, ea']
    refine PySem.W.kat_lt h1 h3 h1' h3' (cmpL_lt I hu (k := c) hc ?_ ?_ ?_ (rl.mono sm) (rl'.mono sm) rv rv' (by simp) ⟨rfl, rfl⟩)
    · have := p1.1; rw [pl] at this; exact this
    · have := p2.1; rw [pl] at this; exact this
    · have := p1.2; rw [dep] at this; omega
  unfold kindOk at hk
  rw [Bool.or_eq_true, Bool.or_eq_true, Bool.or_eq_true] at hk
  rcases hk with ((hk | hk) | hk) | hk
  · refine ⟨oneType', fun Q E hq => PySem.W.kas_kind (T := .type "int") (by omega) (fun v hv => ?_) (by decide +kernel) (by decide +kernel) hq, lift _ fun z hz y hy c hc => ?_⟩
    · obtain ⟨z, hz, rfl⟩ := List.mem_map.mp hv
      obtain ⟨i, t, e1, _⟩ := tri_int (h z hz) (allI e hk z hz)
      rw [e1]
      exact PySem.W.Looks.of_pure rfl
    · obtain ⟨i, t, e1, e2⟩ := tri_int (h z hz) (allI e hk z hz)
      obtain ⟨j, t', e3, e4⟩ := tri_int (h y hy) (allI e hk y hy)
      rw [e2, e4] at hc
      cases hc
      rw [e1, e3, keyLt'_oneType]
      exact oneLt_any_int ⟨rfl, rfl⟩
  · refine ⟨oneType', fun Q E hq => PySem.W.kas_kind (T := .type "str") (by omega) (fun v hv => ?_) (by decide +kernel) (by decide +kernel) hq, lift _ fun z hz y hy c hc => ?_⟩
    · obtain ⟨z, hz, rfl⟩ := List.mem_map.mp hv
      obtain ⟨i, t, e1, _⟩ := tri_str (h z hz) (allI e hk z hz)
      rw [e1]
      exact PySem.W.Looks.of_pure rfl
    · obtain ⟨i, t, e1, e2⟩ := tri_str (h z hz) (allI e hk z hz)
      obtain ⟨j, t', e3, e4⟩ := tri_str (h y hy) (allI e hk y hy)
      rw [e2, e4] at hc
      cases hc
      rw [e1, e3, keyLt'_oneType]
      exact oneLt_any_str ⟨rfl, rfl⟩
  · exact tups (.type "int") isI (by decide +kernel) (by decide +kernel) (fun z t p => by
      obtain ⟨i, t, e1, _⟩ := tri_int t p
      rw [e1]
      exact PySem.W.Looks.of_pure rfl) hk
  · exact tups (.type "str") isS (by decide +kernel) (by decide +kernel) (fun z t p => by
      obtain ⟨i, t, e1, _⟩ := tri_str t p
      rw [e1]
      exact PySem.W.Looks.of_pure rfl) hk
def rSort (K : PySem.W.Frag) : List V → Hp → VK → Prop := fun xs H Q => ∃ (a : Addr) (vs : List V) (ds es : List D) (G : Hp), xs = [.ref a] ∧ (SqL K H a vs ∨ SqT K H a vs) ∧ Same G H ∧ RepL K G vs ds ∧ sortedL ds = some es ∧
  ∀ p us, RepL K G us es → H p = none → Q (.ref p) (upd H p (.lst us))
theorem cr_sortedG {k : Nat} (hr : Room k X.A) : CallR X (.builtin "sorted") (rSort X.K) := by
  intro pins s σ H xs us Q I r h
  obtain ⟨a, vs, ds, es, G, rfl, hs, sm, rl, hso, q⟩ := h
  obtain ⟨its, T, o, n, rv, hT, ho, hc, hd, hz⟩ : ∃ (its : List Value) (T : String) (o : Obj) (n : Nat), Vals vs its ∧ (T = "list" ∨ T = "tuple") ∧ s.heap.get? a = some o ∧ o.cls = .type T ∧ o.data = .seq its.toArray n ∧ vs.length ≤ sizeLine := by
    rcases hs with hs | hs
    · obtain ⟨its, rv, ⟨o, n, h1, h2, _, h3⟩, hz⟩ := I.list hs
      exact ⟨its, "list", o, n, rv, .inl rfl, h1, h2, h3, hz⟩
    · obtain ⟨its, rv, ⟨o, h1, h2, n, h3⟩, hz⟩ := I.tuple hs
      exact ⟨its, "tuple", o, n, rv, .inr rfl, h1, h2, h3, hz⟩
  obtain ⟨u, rfl, ru⟩ := vals1 r
  obtain rfl : u = Value.ref a := ru
  obtain ⟨zs, e1, e2, ht⟩ := tri_of rv rl
  have lz : its.length = zs.length := by rw [← e1, List.length_map]
  have ld : ds.length = zs.length := by rw [← e2, List.length_map]
  refine sorted_seq (swo_key (keyV zs (rnk ds))) hT ho hc hd (by rw [← rv.length]; exact hz) (fun h2 h1 b kb h' kh => ?_) fun h' d out hs1 hs2 kh hn hd2 => ?_
  · have I' : Inv X pins σ H { s with heap := h' } := I.kept (t' := s.toks) fun c u hu => kh c u (kb c u hu).1 (kb c u hu).2
    unfold sortedL at hso
    have nl : decide (ds.length < 2) = false := decide_eq_false (by omega)
    rw [nl, Bool.false_or] at hso
    split at hso
    · rename_i ok
      have q := kind_cmp (A := X.A.in1.in1) I' sm (by have := hr.un; have e : X.A.in1.in1.units = X.A.units + 1 + 1 := rfl; rw [e]; omega) ht e2 (by omega) ok
      rw [e1] at q
      exact q
    · cases hso
  · obtain ⟨zs', p, e3⟩ := perm_lift hs2.perm e1
    obtain ⟨rv', rl'⟩ := tri_to (K := X.K) (G := G) (zs := zs') fun z hz => ht z (p.mem_iff.mp hz)
    rw [e3] at rv'
    have ed : zs'.map (·.2.2) = es := by
      unfold sortedL at hso
      by_cases h2 : ds.length < 2
      · rw [if_pos (by rw [decide_eq_true h2]; rfl)] at hso
        cases hso
        have h3 : ∀ l : List D, l.length < 2 → ∀ m : List D, m.Perm l → m = l := fun l hl m pm => by
          match l, hl with
          | [], _ => exact pm.eq_nil
          | [x], _ => exact List.perm_singleton.mp pm
          | _ :: _ :: _, hl => exact absurd hl (by simp)
        have p2 : (zs'.map (·.2.2)).Perm ds := by rw [← e2]; exact p.map _
        have i1 := isortR_perm (rnk ds) ds
        rw [h3 ds h2 _ p2, h3 ds h2 _ i1]
      · rw [decide_eq_false h2, Bool.false_or] at hso
        split at hso
        · rename_i ok
          cases hso
          have p2 : (zs'.map (·.2.2)).Perm ds := by rw [← e2]; exact p.map _
          unfold sortOk at ok
          rw [Bool.and_eq_true, Bool.and_eq_true] at ok
          obtain ⟨⟨_, hp⟩, hcc⟩ := ok
          have hpl : ∀ z ∈ zs, pl z.2.2 = true := fun z hz => by
            have q := allI e2 hp z hz
            rw [Bool.and_eq_true] at q
            exact q.1
          refine sorted_uniq (r := rnk ds) (p2.trans (isortR_perm _ _).symm) ?_ (isortR_srt _ _) fun x hx y hy e => ?_
          · rw [List.pairwise_map]
            have s1 : (zs'.map (·.1)).Pairwise fun x y => decide (keyV zs (rnk ds) y < keyV zs (rnk ds) x) = false := by rw [e3]; exact hs1
            rw [List.pairwise_map] at s1
            refine s1.imp_of_mem fun {x y} hx hy h => ?_
            have h := of_decide_eq_false h
            rw [keyV_eq I sm ht hpl (p.mem_iff.mp hx), keyV_eq I sm ht hpl (p.mem_iff.mp hy)] at h
            omega
          · have q := List.all_eq_true.mp (List.all_eq_true.mp hcc x (p2.mem_iff.mp hx)) y (p2.mem_iff.mp hy)
            rw [Bool.and_eq_true, Bool.or_eq_true] at q
            rcases q.2 with q | q
            · rw [bne_iff_ne] at q
              exact absurd e q
            · exact sameD_eq q
        · cases hso
    rw [ed] at rl'
    have hn' : H d = none := HOk.gone I.hok hn
    obtain ⟨m, hm⟩ := hd2
    have hlen : (zs'.map (·.2.1)).length ≤ sizeLine := by
      rw [List.length_map, p.length_eq, ← lz, ← rv.length]; exact hz
    exact ⟨.ref d, upd H d (.lst (zs'.map (·.2.1))), I.laidN (t' := s.toks) kh hn hn' ⟨hlen, out, m, rv', hm⟩, rfl, q d _ rl' hn'⟩
theorem s_sorted : CallL X (rSort X.K) sortedD := fun G H xs as ds Q sm rx e q => by
  unfold sortedD at e
  split at e
  · obtain ⟨v, rfl, r⟩ := rb1 rx
    obtain ⟨l, vs, rfl, h1, rl⟩ := r.asL sm
    exact ⟨l, vs, _, ds, G, rfl, .inl (SqL.of h1), sm, rl, e, fun p us ru hp => q p us G H (Grow.refl sm) ru hp⟩
  · obtain ⟨v, rfl, r⟩ := rb1 rx
    obtain ⟨l, vs, rfl, h1, rl⟩ := r.asT sm
    exact ⟨l, vs, _, ds, G, rfl, .inr h1, sm, rl, e, fun p us ru hp => q p us G H (Grow.refl sm) ru hp⟩
  · cases e
end
end DL

set_option Elab.async false
set_option linter.all false
set_option maxRecDepth 100000
set_option autoImplicit false
set_option maxHeartbeats 1000000
namespace DL
open PySem PySem.Spec PyProof.Rows L2
variable [PWd]
variable {K : PySem.W.Frag} {G G' G'' H H' H'' : Hp} {Z : Addr → Prop} {ι ι' ι'' : List Addr} {M M' : Store} {Γ Γ' : Env} {σ σ' : L2.St}
section
variable {P : Program} {w : World} {mg : Str → Option Value} {base : Heap}
variable {X : Cx} {N : List Str} {sc : Scope} {Wx : WX} {k : Nat} {e : Expr} {f : EF} {u v : SF} {body suite : List Stmt} {b₀ : Stmt} {p p2 pos pos' : Pos} {x m : Str} {j : Nat}
/-! ### raise -/
def sRaise (x : XD) : SF := fun Γ M => some (.ex x Γ M)
/-- what the head tells of an own class over ValueError -/
structure OwnX (K : PySem.W.Frag) (mg : Str → Option Value) (x : Str) : Prop where
  at_ : mg x = some (.ref (He.ga K x))
  ex : PySem.W.excIn K (He.ga K x) He.veBase "ValueError.__new__" = true
  kp : PySem.W.keepIn K (.ref (He.ga K x)) = true
  su : PySem.W.subIn K (.ref (He.ga K x)) (.type "BaseException") = some true
  ty : PySem.W.typeIn K (.ref (He.ga K x)) = some (.type "type")
theorem OwnX.raises (o : OwnX K mg x) (hK : X.K = K) : Raises X (.ref (He.ga K x)) := raises_own (by rw [hK]; exact o.su) (by rw [hK]; exact o.ty)
/-- raise X('m') -/
theorem ds_raiseM (C : Ctx P w K mg base X N sc Wx k) (o : OwnX K mg x) (hg : sc.names.lookup x = some .globalImplicit := by rfl) (hdb : (x == ("__debug__" : Str)) = false := by decide) :
    DS X Wx Z (.Raise (some (.Call (.Name x p) [.Constant (.str m) j p2] [] pos')) none pos) (sRaise ⟨x, []⟩) := by
  refine ⟨_, ps_raise C.calm C.tk (pmk_own PySem.F.excBase_ValueError (by rw [C.hK]; exact o.ex) (C.m o.at_) (C.kp o.kp) (o.raises C.hK) (C.g hg) hdb), fun ι M Γ σ G H out D s e q => ?_⟩
  cases e
  exact q ι G H σ _ _ s Ext.refl ⟨by rw [C.hK], .inl rfl⟩
/-- raise X(e) -/
def sRaise1 (x : XD) (f : EF) : SF := fun Γ M => bndS Γ (f Γ M) fun _ M1 => some (.ex x Γ M1)
theorem ds_raise1 (C : Ctx P w K mg base X N sc Wx k) (o : OwnX K mg x) (ha : DE X Wx Z e f) (hg : sc.names.lookup x = some .globalImplicit := by rfl) (hdb : (x == ("__debug__" : Str)) = false := by decide)
    (he : starEach [e] X.env = (false, eval e X.env) :: starEach [] X.env := by rfl) (hpl : (backTo pos' (starEach [] X.env)).any (·.1) = false := by rfl) :
    DS X Wx Z (.Raise (some (.Call (.Name x p) [e] [] pos')) none pos) (sRaise1 ⟨x, []⟩ f) := by
  obtain ⟨ta, pa, oa⟩ := ha
  refine ⟨_, ps_raise C.calm C.tk (SkE.pmk_own1 PySem.F.excBase_ValueError (by rw [C.hK]; exact o.ex) (C.m o.at_) (C.kp o.kp) (o.raises C.hK) (C.g hg) pa (hs := he) (hdb := hdb)), fun ι M Γ σ G H out D s e q => ?_⟩
  refine oa.thenS s e q fun w M1 e1 ι1 G1 H1 v s1 x1 r1 => ?_
  cases e1
  exact q ι1 G1 H1 σ _ _ s1 x1 ⟨by rw [C.hK], .inl rfl⟩
/-! ### try -/
/-- what a suite does, as a wish -/
def tU (K : PySem.W.Frag) (X : Cx) (Wx : WX) (Z : Addr → Prop) (u : SF) : TS := fun D σ H => ∃ ι M Γ G out, SR K Z ι M Γ σ G H ∧ u Γ M = some out ∧ SPost X Wx Z ι G H D out
theorem pss_U {X' : Cx} (hK : X'.K = X.K) (h : DSs X' Wx Z body u) : PSs X' body (tU X.K X Wx Z u) := by
  obtain ⟨t, pt, ot⟩ := h
  refine ⟨fun pins s σ H D I hu => pt.run pins s σ H D I ?_⟩
  obtain ⟨ι, M, Γ, G, out, sr, e, q⟩ := hu
  refine ot ι M Γ σ G H out D (by rw [hK]; exact sr) e ?_
  cases out <;> (unfold SPost at q ⊢; rw [hK]; exact q)
theorem Ctx.tr (C : Ctx P w K mg base X N sc Wx k) {W : WX} {pn : List (Addr × Obj)} {xe : Value → Shared → Prop} (tk : Takes (X.tr pn xe) W) : Ctx P w K mg base (X.tr pn xe) N sc W k :=
  ⟨C.hP, C.hw, C.hK, C.hmg, C.hbs, C.hpP, C.hpw, C.hN, C.nd, C.hs, C.calm, tk, C.room, C.gd⟩
/-- which class a clause takes -/
def noEx : Option SO → Option SO
  | some (.ex _ _ _) => none
  | o => o
def sTry (hit : Str → Option Bool) (u v : SF) : SF := fun Γ M => match u Γ M with
  | some (.ex x Γ' M') => (match hit x.cls with
    | some true => noEx (v Γ' M')
    | some false => some (.ex x Γ' M')
    | none => none)
  | o => o
def hitT (t : List (Str × Bool)) (x : Str) : Option Bool := t.lookup x
theorem ds_try (C : Ctx P w K mg base X N sc Wx k) (F : Fx X sc) (px : Px X) (hit : Str → Option Bool) (gx : mg x = some (.ref (He.ga K x))) (hh : ∀ c b, hit c = some b → PySem.W.exmOne K (.ref (He.ga K c)) (.ref (He.ga K x)) = some b)
    (hb : ∀ (X : Cx) (Wx : WX), Ctx P w K mg base X N sc Wx k → Fx X sc → Px X → DSs X Wx Z body u) (hv : ∀ (X' : Cx), DSs X' (fun _ _ _ _ => False) Z (b₀ :: suite) v)
    (hg : sc.names.lookup x = some .globalImplicit := by rfl) (hdb : (x == ("__debug__" : Str)) = false := by decide) : DS X Wx Z (.Try body [.ExceptHandler (some (.Name x p)) none (b₀ :: suite) pos'] [] [] pos) (sTry hit u v) := by
  refine ⟨_, ps_try_only (tb := fun W => tU X.K X W Z u) (ts := fun _ _ _ => tU X.K X (fun _ _ _ _ => False) Z v) px.st px.fr ⟨C.g hg, hdb, .inl (C.m gx)⟩ C.tk
    (fun W pn xe tk po => pss_U rfl (hb (X.tr pn xe) W (C.tr tk) ⟨F.fn⟩ ⟨po, px.st, px.fr⟩)) (fun a oe cls d pn _ _ => pss_U rfl (hv _)), fun ι M Γ σ G H out D s e q => ?_⟩
  unfold sTry at e
  cases z : u Γ M with
  | none => rw [z] at e; cases e
  | some o =>
    rw [z] at e
    refine ⟨ι, M, Γ, G, o, s, z, ?_⟩
    cases o with
    | nx Γ1 M1 => cases e; exact q
    | rt w1 M1 => cases e; exact q
    | bk Γ1 M1 => cases e; exact q
    | ct Γ1 M1 => cases e; exact q
    | ex xx Γ1 M1 =>
      intro ι1 G1 H1 σ1 c d s1 x1 r1
      dsimp only at e
      cases hc : hit xx.cls with
      | none => rw [hc] at e; cases e
      | some b =>
        rw [hc] at e
        refine ⟨b, by rw [r1.1, C.hK]; exact hh _ _ hc, fun hb => ?_, fun hb => ?_⟩
        · subst hb
          intro a ha
          dsimp only at e
          have qq := q.ext x1
          cases z2 : v Γ1 M1 with
          | none => rw [z2] at e; cases e
          | some o2 =>
            rw [z2] at e
            refine ⟨ι1, M1, Γ1, G1, o2, s1, z2, ?_⟩
            cases o2 with
            | nx Γ2 M2 => cases e; exact qq
            | rt w2 M2 => cases e; exact qq
            | bk Γ2 M2 => cases e; exact qq
            | ct Γ2 M2 => cases e; exact qq
            | ex x2 Γ2 M2 => cases e
        · subst hb
          cases e
          exact q ι1 G1 H1 σ1 c d s1 x1 r1
end
end DL

set_option Elab.async false
set_option linter.all false
set_option maxRecDepth 100000
set_option autoImplicit false
set_option maxHeartbeats 1000000
namespace DL
open PySem PySem.Spec PyProof.Rows L2
variable [PWd]
/-! ### t[::-1], t a tuple -/
section
variable {prog : Program} {w : World} {A : Around} {E : Value → Shared → Prop} {s : Shared}
theorem places_back (n : Nat) : Builtin.Slice.slicePlaces ((n : Int) - 1) (-1) (-1) = n := by
  unfold Builtin.Slice.slicePlaces
  rw [if_neg (by decide)]
  by_cases h : n = 0
  · subst h; rfl
  · rw [if_pos (by omega)]
    have e : ((n : Int) - 1 - -1 - 1) / (- -1) + 1 = n := by
      have : (- -1 : Int) = 1 := rfl
      rw [this, Int.ediv_one]; omega
    rw [e]; rfl
theorem fm_congr {α β : Type} {f g : α → Option β} : ∀ {l : List α}, (∀ x ∈ l, f x = g x) → l.filterMap f = l.filterMap g
  | [], _ => rfl
  | x :: l, h => by
    rw [List.filterMap_cons, List.filterMap_cons, h x List.mem_cons_self, fm_congr fun y hy => h y (List.mem_cons_of_mem _ hy)]
theorem pick_back (xs : Array Value) : ((List.range xs.size).filterMap fun (m : Nat) => xs[((xs.size : Int) - 1 + (m : Int) * (-1)).toNat]?) = xs.toList.reverse := by
  refine List.ext_getElem? fun i => ?_
  have e : (List.range xs.size).filterMap (fun (m : Nat) => xs[((xs.size : Int) - 1 + (m : Int) * (-1)).toNat]?) = (List.range xs.size).filterMap fun m => some ((xs.toList.reverse)[m]?.getD .none) := by
    refine fm_congr fun m hm => ?_
    have hm := List.mem_range.mp hm
    have e1 : ((xs.size : Int) - 1 + (m : Int) * (-1)).toNat = xs.size - 1 - m := by omega
    rw [e1, List.getElem?_reverse (by simpa using hm), Array.length_toList, Array.getElem?_toList, Array.getElem?_eq_getElem (show xs.size - 1 - m < xs.size by omega)]
    rfl
  rw [e]
  have e2 : ∀ l : List Nat, l.filterMap (fun m => some ((xs.toList.reverse)[m]?.getD .none)) = l.map fun m => (xs.toList.reverse)[m]?.getD .none := fun l => by
    induction l with
    | nil => rfl
    | cons a l ih => rw [List.filterMap_cons, ih]; rfl
  rw [e2, List.getElem?_map]
  by_cases hi : i < xs.size
  · rw [List.getElem?_range hi, Option.map_some, List.getElem?_eq_getElem (show i < xs.toList.reverse.length by simpa using hi)]
    rfl
  · rw [List.getElem?_eq_none (by simpa using hi), List.getElem?_eq_none (by simpa using hi)]
    rfl
theorem item_tuple_back {t sl : Addr} {its : Array Value} {vs : Value} {Q : Value → Shared → Prop} (ht : IsTup s.heap t its) (hs : s.heap.IsSliceOf sl .none .none vs) (ps : IsPart vs (some (-1))) (hsz : its.size ≤ sizeLine)
    (h : Q (.ref s.heap.objs.size) { s with heap := s.heap.push { cls := .type "tuple", data := .seq its.toList.reverse.toArray } }) : wpAny (model prog w) A (getItem (.ref t) (.ref sl)) Q E s := by
  obtain ⟨os, hos, hcs, hds⟩ := hs
  have tyS : s.TypeIs (.ref sl) "slice" := ⟨os, hos, hcs⟩
  have small : sizeOk (.seq its.toList.reverse.toArray) := by
    show its.toList.reverse.toArray.size ≤ sizeLine
    simpa using hsz
  have cut : ∀ {R : Int × Int × Nat → Shared → Prop}, R ((its.size : Int) - 1, -1, its.size) s → wpAny (model prog w) A.in1 (Builtin.Slice.sliceApplied (.ref sl) (pure (its.size : Int))) R E s := fun {R} hR => by
    unfold Builtin.Slice.sliceApplied Builtin.Slice.sliceFields
    refine wpAny_bind (wpAny_bind (wpAny_field hos hds (x := .none) rfl (wpAny_bind (wpAny_field hos hds (x := .none) rfl (wpAny_bind (wpAny_field hos hds (x := vs) rfl (wpAny_pure (wpAny_bind (HT.slicePart_ ps ?_)))))))))
    show wpAny _ _ (if ((-1 : Int) == 0) = true then _ else _) _ _ s
    rw [if_neg (by decide)]
    refine wpAny_bind (HT.slicePart_ .none (wpAny_bind (HT.slicePart_ .none (wpAny_bind (wpAny_pure ?_)))))
    show wpAny _ _ (pure ((its.size : Int) - 1, (-1 : Int), Builtin.Slice.slicePlaces ((its.size : Int) - 1) (-1) (-1))) _ _ s
    rw [places_back]
    exact wpAny_pure hR
  have new : ∀ {R : PySem.Fin → Shared → Prop}, R (.done (.ret (.ref s.heap.objs.size))) { s with heap := s.heap.push { cls := .type "tuple", data := .seq its.toList.reverse.toArray } } → wpAny (model prog w) A.in1 (Builtin.Tuple.tupleExact its.toList.reverse.toArray >>= fun v => ret v) R E s := fun {R} hR =>
    wpAny_bind (m := Builtin.Tuple.tupleExact _) (wpAny_newObj_type (wpAny_pure hR) small)
  unfold getItem
  refine wpAny_holding ?_
  refine wpAny_bind (wpAny_sequenceKey ht.typeIs (by decide) (wpAny_bind (wpAny_callSpecial?_slot (name := Str.ofString "__getitem__") ht.typeIs PyProof.Rows.slot_tuple_getitem (wpAny_call_entry PyProof.Rows.slot_tuple_getitem ht.typeIs entry_tuple_getitem ?_ (args_tuple_getitem _ _)))))
  show wpAny _ _ (Builtin.Tuple.tupleItemsOf (.ref t) >>= _) _ _ s
  refine wpAny_bind (tupleItemsOf_ ht (wpAny_bind (wpAny_typeOf tyS ?_)))
  rw [if_pos (by decide)]
  refine wpAny_bind (cut ?_)
  show wpAny _ _ (if ((its.size : Int) - 1 == 0 && (-1 : Int) == 1 && its.size == its.size) = true then _ else _) _ _ s
  rw [if_neg (by simp), pick_back]
  exact new ⟨_, rfl, wpAny_pure h⟩
end
section
variable {K : PySem.W.Frag} {G G' G'' H H' H'' : Hp} {Z : Addr → Prop} {ι ι' ι'' : List Addr} {M M' : Store} {Γ Γ' : Env} {σ σ' : L2.St}
variable {P : Program} {w : World} {mg : Str → Option Value} {base : Heap} {X : Cx} {N : List Str} {sc : Scope} {Wx : WX} {k : Nat} {a : Expr} {f : EF} {p1 p2 p3 pos : Pos}
def tRevT (K : PySem.W.Frag) (te : TE) : TE := fun σ H Q => te σ H fun x H1 => ∃ a xs, x = .ref a ∧ SqT K H1 a xs ∧ ∀ p, H1 p = none → Q (.ref p) (upd H1 p (.tup xs.reverse))
theorem pe_revT {te : TE} {kk : Nat} (he : PE X a te) : PE X (.Subscript a (.Slice none none (some (.UnaryOp .USub (.Constant (.int 1) kk p1) p2)) p3) pos) (tRevT X.K te) := by
  refine ⟨fun pins s σ H Q I h => Subscript_ (thn (he.run pins s σ H _ I h) fun v s1 hv => ?_)⟩
  obtain ⟨x, H1, I1, r1, l, xs, rfl, hx, q⟩ := hv
  cases r1
  have step : PO X (some (.UnaryOp .USub (.Constant (.int 1) kk p1) p2)) (tPart (tUn (rU fun i => .int (-i)) (tC (.int 1)))) := po_some (pe_un un_neg pe_int)
  refine wpAny_Slice (thn (po_none.run pins s1 σ H1 (fun o H2 => o = none ∧ H2 = H1) I1 ⟨rfl, rfl⟩) fun vl s2 h2 => ?_)
  obtain ⟨lo, H2, I2, pl, rfl, rfl⟩ := h2
  refine thn (po_none.run pins s2 σ H2 (fun o H3 => o = none ∧ H3 = H2) I2 ⟨rfl, rfl⟩) fun vu s3 h3 => ?_
  obtain ⟨hi, H3, I3, pu, rfl, rfl⟩ := h3
  refine thn (step.run pins s3 σ H3 (fun o H4 => o = some (-1) ∧ H4 = H3) I3 ⟨1, rfl, -1, rfl, rfl, rfl⟩) fun vs s4 h4 => ?_
  obtain ⟨o, H4, I4, ps, rfl, rfl⟩ := h4
  cases pl
  cases pu
  have I5 : Inv X pins σ H4 { s4 with heap := s4.heap.push { cls := .type "slice", data := .fields #[.none, .none, vs] } } := I4.kept (t' := s4.toks) fun b ob q => Heap.get?_push_of_some _ q
  obtain ⟨its, r, ht, hz⟩ := I5.tuple hx
  have hlen := r.length
  show wpAny (model X.prog X.w) X.A (subscriptTail a (.Slice none none (some (.UnaryOp .USub (.Constant (.int 1) kk p1) p2)) p3) (.ref l) (.ref s4.heap.objs.size)) (EP X pins σ Q) X.xe { s4 with heap := s4.heap.push { cls := .type "slice", data := .fields #[.none, .none, vs] } }
  refine tail_any (ops := [.ref l, .ref s4.heap.objs.size]) ht.typeIs PyProof.Rows.slot_tuple_getitem.lookup ?_ (by with_unfolding_all rfl)
  refine item_tuple_back ht (Heap.IsSliceOf.new _ .none .none vs) ps (by rw [List.size_toArray]; omega) ?_
  refine ⟨.ref _, _, I5.laid (t' := s4.toks) (o := .tup xs.reverse) (fun b ob q => Heap.get?_push_of_some _ q) (Nat.le_refl _) ?_, rfl, q _ (I5.hok.fresh (Nat.le_refl _))⟩
  exact ⟨by rw [List.length_reverse]; exact hz, its.reverse, r.reverse, _, Heap.get?_push_size _ rfl, rfl, 0, by simp⟩
theorem de_revT {kk : Nat} (ha : DE X Wx Z a f) : DE X Wx Z (.Subscript a (.Slice none none (some (.UnaryOp .USub (.Constant (.int 1) kk p1) p2)) p3) pos) (eUn revT f) := by
  obtain ⟨ta, pa, oa⟩ := ha
  refine ⟨_, pe_revT pa, fun ι M Γ σ G H out Q s e q => ?_⟩
  refine oa.then s e (EPost.x q) fun w M1 e1 ι1 G1 H1 v s1 x1 r1 => ?_
  obtain ⟨d, h1, rfl⟩ := Option.map_eq_some_iff.mp e1
  obtain ⟨da, h2, h1⟩ := Option.bind_eq_some_iff.mp h1
  have rb := s1.cr.rb r1 h2
  unfold revT at h1
  split at h1
  · split at h1
    · cases h1
      obtain ⟨l, vs, rfl, h3, rl⟩ := rb.asT s1.cr.sub
      refine ⟨l, vs, rfl, h3, fun p hp => ?_⟩
      have gw := Grow.one (o := .tup vs.reverse) s1.cr.sub hp
      exact q ι1 _ _ _ (s1.grow gw) (x1.trans (s1.cr.growE gw)) (.d (.tup (SqT.of upd_same) (rl.reverse.mono gw.g)))
    · cases h1
  · cases h1
end
end DL

set_option Elab.async false
set_option linter.all false
set_option maxRecDepth 100000
set_option autoImplicit false
set_option maxHeartbeats 1000000
namespace DL
open PySem PySem.Spec PyProof.Rows L2
variable [PWd]
/-! ### zip of two of any kind: lists, tuples, texts -/
inductive SK where
  | l (a : Addr) (xs : List V) | t (a : Addr) (xs : List V) | s (z : Str)
def SK.v : SK → V
  | .l a _ => .ref a
  | .t a _ => .ref a
  | .s z => .str z
def SK.n : SK → Nat
  | .l _ xs => xs.length
  | .t _ xs => xs.length
  | .s z => z.cps.size
def SK.W : SK → Nat → V → Prop
  | .l _ xs, i, v => xs[i]? = some v
  | .t _ xs, i, v => xs[i]? = some v
  | .s z, i, v => ∃ c, z.cps[i]? = some c ∧ v = .str ⟨#[c]⟩
def SK.ok (K : PySem.W.Frag) (H : Hp) : SK → Prop
  | .l a xs => SqL K H a xs
  | .t a xs => SqT K H a xs
  | .s _ => True
def ItzG (K : PySem.W.Frag) (x y : SK) : It :=
  ⟨fun i H => x.ok K H ∧ y.ok K H ∧ i < x.n ∧ i < y.n,
    fun i H v H' => ∃ T p q, v = .ref T ∧ H T = none ∧ H' = upd H T (.tup [p, q]) ∧ x.W i p ∧ y.W i q,
    fun i H => x.ok K H ∧ y.ok K H ∧ min x.n y.n ≤ i⟩
/-- where an iterator over a side stands -/
structure SdI (P : Program) (w : World) (K : PySem.W.Frag) (x : SK) (it : Addr) (St : Nat → Heap → Prop) : Prop where
  one : ∀ i h, St i h → ∃ o, h.get? it = some o ∧ ∀ v, o.data ≠ .cell v
  keep : ∀ i h h', St i h → (∀ o, h.get? it = some o → h'.get? it = some o) → St i h'
  draws : ∀ (X : Cx) (pins : List (Addr × Obj)) (σ : L2.St) (H : Hp) (s : Shared), X.prog = P → X.w = w → X.K = K → X.A.in1.handled = none → Inv X pins σ H s → x.ok K H →
    ∃ (fp : List Addr) (Pv : Nat → Value → Prop) (St' : Nat → Heap → Prop), Draws X.prog X.w X.A.in1 it fp x.n Pv St' ∧ (∀ i, St i s.heap → St' i s.heap) ∧ (∀ i h, St' i h → St i h) ∧ (∀ i u, Pv i u → ∃ p, RelV p u ∧ x.W i p) ∧ it ∈ fp ∧ ∀ c ∈ fp, c = it ∨ x.v = .ref c
/-- a new iterator -/
theorem side_begins {P : Program} {w : World} {K : PySem.W.Frag} {X : Cx} {pins : List (Addr × Obj)} {σ : L2.St} {H : Hp} {s : Shared} {x : SK} {u : Value} (hK : X.K = K) (I : Inv X pins σ H s) (sd : x.ok K H) (r : RelV x.v u) :
    ∃ (o : Obj) (Hh : Heap → Prop), Begins u o Hh ∧ Hh s.heap ∧ (∀ a, x.v = .ref a → a < s.heap.objs.size) ∧ ∀ (it : Addr), (∀ a, x.v = .ref a → a ≠ it) → ∃ St : Nat → Heap → Prop, (∀ h, h.get? it = some o → St 0 h) ∧ SdI P w K x it St := by
  subst hK
  cases x with
  | l a xs =>
    cases r
    obtain ⟨its, rv, p, hz⟩ := I.list sd
    refine ⟨_, _, begins_list a its.toArray, p.isList, fun b e => by cases e; exact p.lt, fun it hne => ⟨fun i h => h.IsListIter it a i, fun h e => ⟨_, e, rfl, rfl⟩, ⟨fun i h st => ?_, fun i h h' st k => st.at fun o e => k o e, ?_⟩⟩⟩
    · obtain ⟨o, e, _, d⟩ := st
      exact ⟨o, e, fun v z => by rw [d] at z; cases z⟩
    · intro X' pins' σ' H' s' hP hw hK' hh I' sd'
      rw [← hK'] at sd'
      obtain ⟨its', rv', p', _⟩ := I'.list sd'
      have l1 := rv'.length
      have D := Draws.list (prog := X'.prog) (w := X'.w) hh it a (hne a rfl) its'.toArray
      have e : its'.toArray.size = (SK.l a xs).n := by simp [SK.n, l1]
      rw [e] at D
      refine ⟨_, _, _, D, fun i st => ⟨st, p'.isList⟩, fun i h st => st.1, fun i u hu => ?_, by simp, fun c hc => ?_⟩
      · have hu : its'[i]? = some u := by simpa using hu
        have hi : i < xs.length := by rw [l1]; exact (List.getElem?_eq_some_iff.mp hu).1
        obtain ⟨v, hv, rr⟩ := rv'.get (List.getElem?_eq_getElem hi)
        rw [hu] at hv
        cases hv
        exact ⟨_, rr, List.getElem?_eq_getElem hi⟩
      · rcases List.mem_cons.mp hc with e | hc
        · exact .inl e
        · exact .inr (by rw [List.mem_singleton.mp hc]; rfl)
  | t a xs =>
    cases r
    obtain ⟨its, rv, p, hz⟩ := I.tuple sd
    refine ⟨_, _, begins_tuple a its.toArray, p, fun b e => by cases e; obtain ⟨_, e, _⟩ := p; exact Heap.lt_size e, fun it hne => ⟨fun i h => h.IsTupleIter it a i, fun h e => ⟨_, e, rfl, rfl⟩, ⟨fun i h st => ?_, fun i h h' st k => st.at fun o e => k o e, ?_⟩⟩⟩
    · obtain ⟨o, e, _, d⟩ := st
      exact ⟨o, e, fun v z => by rw [d] at z; cases z⟩
    · intro X' pins' σ' H' s' hP hw hK' hh I' sd'
      rw [← hK'] at sd'
      obtain ⟨its', rv', p', _⟩ := I'.tuple sd'
      have l1 := rv'.length
      have D := Draws.tuple (prog := X'.prog) (w := X'.w) hh it a (hne a rfl) its'.toArray
      have e : its'.toArray.size = (SK.t a xs).n := by simp [SK.n, l1]
      rw [e] at D
      refine ⟨_, _, _, D, fun i st => ⟨st, p'⟩, fun i h st => st.1, fun i u hu => ?_, by simp, fun c hc => ?_⟩
      · have hu : its'[i]? = some u := by simpa using hu
        have hi : i < xs.length := by rw [l1]; exact (List.getElem?_eq_some_iff.mp hu).1
        obtain ⟨v, hv, rr⟩ := rv'.get (List.getElem?_eq_getElem hi)
        rw [hu] at hv
        cases hv
        exact ⟨_, rr, List.getElem?_eq_getElem hi⟩
      · rcases List.mem_cons.mp hc with e | hc
        · exact .inl e
        · exact .inr (by rw [List.mem_singleton.mp hc]; rfl)
  | s z =>
    obtain ⟨t, rfl⟩ := r
    refine ⟨_, _, begins_text z t, trivial, fun b e => (nomatch e), fun it hne => ⟨fun i h => h.IsStrIter it (strIterType z) z t i, fun h e => ⟨_, e, rfl, rfl⟩, ⟨fun i h st => ?_, fun i h h' st k => ?_, ?_⟩⟩⟩
    · obtain ⟨o, e, _, d⟩ := st
      exact ⟨o, e, fun v z => by rw [d] at z; cases z⟩
    · obtain ⟨o, e, rr⟩ := st
      exact ⟨o, k o e, rr⟩
    · intro X' pins' σ' H' s' hP hw hK' hh I' sd'
      refine ⟨_, _, _, Draws.text (prog := X'.prog) (w := X'.w) hh it z t, fun i st => st, fun i h st => st, fun i u hu => ?_, by simp, fun c hc => .inl (List.mem_singleton.mp hc)⟩
      obtain ⟨c, u', h1, rfl⟩ := hu
      exact ⟨.str ⟨#[c]⟩, ⟨u', rfl⟩, c, h1, rfl⟩
theorem turn_zipG {P : Program} {w : World} {K : PySem.W.Frag} {elts : List Expr} {kk : Nat} {tpos : Pos} {x y : SK} {z TI TO i1 i2 : Addr} {St1 St2 : Nat → Heap → Prop} (D1 : SdI P w K x i1 St1) (D2 : SdI P w K y i2 St2)
    (nd : [z, TI, TO, i1, i2].Nodup) (hx : ∀ a, x.v = .ref a → a ∉ [z, TI, TO, i1, i2]) (hy : ∀ a, y.v = .ref a → a ∉ [z, TI, TO, i1, i2]) :
    Turn P w K (.Tuple elts kk tpos) (ItzG K x y) [z, TI, TO, i1, i2] z (fun i h => IsZip h z TI TO .none ∧ IsTupOf2 h TI (.ref i1) (.ref i2) ∧ (∃ a b, IsTupOf2 h TO a b) ∧ St1 i h ∧ St2 i h ∧ i ≤ x.n ∧ i ≤ y.n) := by
  have nds : z ≠ TI ∧ z ≠ TO ∧ z ≠ i1 ∧ z ≠ i2 ∧ TI ≠ TO ∧ TI ≠ i1 ∧ TI ≠ i2 ∧ TO ≠ i1 ∧ TO ≠ i2 ∧ i1 ≠ i2 := by
    simp only [List.nodup_cons, List.mem_cons, not_or, List.not_mem_nil, not_false_eq_true, List.nodup_nil, and_true] at nd
    obtain ⟨⟨a1, a2, a3, a4⟩, ⟨b1, b2, b3⟩, ⟨c1, c2⟩, d⟩ := nd
    exact ⟨a1, a2, a3, a4, b1, b2, b3, c1, c2, d⟩
  obtain ⟨n1, n2, n3, n4, n5, n6, n7, n8, n9, n10⟩ := nds
  have sep : ∀ (fp1 fp2 : List Addr), i1 ∈ fp1 → i2 ∈ fp2 → (∀ c ∈ fp1, c = i1 ∨ x.v = .ref c) → (∀ c ∈ fp2, c = i2 ∨ y.v = .ref c) → ZipSep2 z TI TO i1 i2 fp1 fp2 := fun fp1 fp2 m1 m2 h1 h2 => by
    have no1 : ∀ c ∈ [z, TI, TO, i1, i2], c ≠ i1 → c ∉ fp1 := fun c hc hne hm => (h1 c hm).elim hne fun e => hx c e hc
    have no2 : ∀ c ∈ [z, TI, TO, i1, i2], c ≠ i2 → c ∉ fp2 := fun c hc hne hm => (h2 c hm).elim hne fun e => hy c e hc
    exact ⟨n1.symm, n2.symm, n5, n6, m1, no1 z (by simp) n3, no1 TO (by simp) n8, n7, m2, no2 z (by simp) n4, no2 TO (by simp) n9, no2 i1 (by simp) n10, no1 i2 (by simp) n10.symm⟩
  refine { mem := by simp, obj := fun i h st c hc => ?_, keep := fun i h h' st k => ?_, item := ?_, done := ?_, self := fun A i s Q E st h => wpAny_pyIter_zip st.1 h }
  · obtain ⟨hz, hTI, ⟨a, b, hTO⟩, s1, s2, le1, le2⟩ := st
    have e' : c = z ∨ c = TI ∨ c = TO ∨ c = i1 ∨ c = i2 := by simpa using hc
    rcases e' with rfl | rfl | rfl | rfl | rfl
    · exact ⟨_, hz, fun v q => nomatch q⟩
    · exact ⟨_, hTI, fun v q => nomatch q⟩
    · exact ⟨_, hTO, fun v q => nomatch q⟩
    · exact D1.one _ _ s1
    · exact D2.one _ _ s2
  · obtain ⟨hz, hTI, ⟨a, b, hTO⟩, s1, s2, le1, le2⟩ := st
    exact ⟨k z (by simp) _ hz, k TI (by simp) _ hTI, ⟨a, b, k TO (by simp) _ hTO⟩, D1.keep _ _ _ s1 fun o q => k i1 (by simp) o q, D2.keep _ _ _ s2 fun o q => k i2 (by simp) o q, le1, le2⟩
  · intro X hP hw hK hc i pins s σ H E I hf st hg
    subst hP hw hK
    obtain ⟨hz, hTI, ⟨a0, b0, hTO⟩, s1, s2, le1, le2⟩ := st
    obtain ⟨g1, g2, l1, l2⟩ := hg
    have hh : X.A.in1.handled = none := I.ok.hd hc
    obtain ⟨fp1, P1, S1, W1, u1, d1, p1, m1, f1⟩ := D1.draws X pins σ H s rfl rfl rfl hh I g1
    obtain ⟨fp2, P2, S2, W2, u2, d2, p2, m2, f2⟩ := D2.draws X pins σ H s rfl rfl rfl hh I g2
    have hzl : z < s.heap.objs.size := Heap.lt_size hz
    refine wpAny_pyNext_zipD2_item (sep fp1 fp2 m1 m2 f1 f2) W1 W2 hz hTI hTO (u1 i s1) (u2 i s2) l1 l2 fun x1 x2 h' tk q1 q2 z' TO' s1' s2' hT hsz hk => ?_
    refine ⟨_, rfl, wpAny_letOwnedTupleGo_zip (s := { s with heap := h', toks := tk }) z' fun h'' z'' sb => ?_⟩
    have hT2 : h''.get? s.heap.objs.size = some { cls := .type "tuple", data := .seq #[x1, x2] } := (sb.2 _ (Nat.ne_of_gt hzl)).trans hT
    obtain ⟨p, rp, wp⟩ := p1 i x1 q1
    obtain ⟨q, rq, wq⟩ := p2 i x2 q2
    have new : ObjOk X.prog X.w (upd H s.heap.objs.size (.tup [p, q])) h'' s.heap.objs.size (.tup [p, q]) :=
      ⟨by show 2 ≤ sizeLine; decide, [x1, x2], .cons rp (.cons rq .nil), ⟨_, hT2, rfl, _, rfl⟩⟩
    have I1 : Inv X pins σ (upd H s.heap.objs.size (.tup [p, q])) { s with heap := h'', toks := tk } :=
      I.turnedNew (t' := tk) (ch := [z, TI, TO, i1, i2]) (fun c o hb q => (sb.2 c (fun q' => hb (by simp [q']))).trans (hk c o (fun q' => hb (by simp [q'])) (fun q' => hb (by simp [q'])) (fun q' => hb (by simp [q'])) (fun q' => hb (by simp [q'])) q)) hf (Nat.le_refl _) new
    refine ⟨.ref s.heap.objs.size, _, I1, rfl, ⟨_, p, q, rfl, I.hok.fresh (Nat.le_refl _), rfl, wp, wq⟩, ⟨z'', ?_, ⟨x1, x2, ?_⟩, ?_, ?_, l1, l2⟩, fun c hcm => ?_⟩
    · exact (sb.2 _ n1.symm).trans (hk _ _ n1.symm n5 n6 n7 hTI)
    · exact (sb.2 _ n2.symm).trans TO'
    · exact D1.keep _ _ _ (d1 _ _ s1') fun o q => (sb.2 _ n3.symm).trans q
    · exact D2.keep _ _ _ (d2 _ _ s2') fun o q => (sb.2 _ n4.symm).trans q
    · have hlt : c < s.heap.objs.size := by
        have e' : c = z ∨ c = TI ∨ c = TO ∨ c = i1 ∨ c = i2 := by simpa using hcm
        rcases e' with rfl | rfl | rfl | rfl | rfl
        · exact hzl
        · exact Heap.lt_size hTI
        · exact Heap.lt_size hTO
        · obtain ⟨_, e1, _⟩ := D1.one _ _ s1; exact Heap.lt_size e1
        · obtain ⟨_, e2, _⟩ := D2.one _ _ s2; exact Heap.lt_size e2
      rw [upd_ne (Nat.ne_of_lt hlt)]
      exact (hf c hcm).1
  · intro X hP hw hK hc i pins s σ H E I hf st hg
    subst hP hw hK
    obtain ⟨hz, hTI, ⟨a0, b0, hTO⟩, s1, s2, le1, le2⟩ := st
    obtain ⟨g1, g2, l⟩ := hg
    have hh : X.A.in1.handled = none := I.ok.hd hc
    obtain ⟨fp1, P1, S1, W1, u1, d1, p1, m1, f1⟩ := D1.draws X pins σ H s rfl rfl rfl hh I g1
    obtain ⟨fp2, P2, S2, W2, u2, d2, p2, m2, f2⟩ := D2.draws X pins σ H s rfl rfl rfl hh I g2
    refine wpAny_pyNext_zipD2_end (sep fp1 fp2 m1 m2 f1 f2) W1 W2 hz hTI hTO (u1 i s1) (u2 i s2) (by omega) (by omega) (by omega) fun h' tk hk => ⟨rfl, ?_⟩
    exact I.turnedL (t' := tk) (ch := [z, TI, TO, i1, i2]) (fun c o hb q => hk c o (fun q' => hb (by simp [q'])) (fun q' => hb (by simp [q'])) (fun q' => hb (by simp [q'])) (fun q' => hb (by simp [q'])) q) hf
def iZipG (K : PySem.W.Frag) (ta : TA) : TI := fun σ H R => ta σ H fun vs H1 => ∃ x y : SK, vs = [x.v, y.v] ∧ x.ok K H1 ∧ y.ok K H1 ∧ R (ItzG K x y) H1
theorem pi_zipG {X : Cx} {e e2 : Expr} {ta : TA} {p pos tpos : Pos} {elts : List Expr} {kk : Nat} (hg : Gl X "zip") (hm : X.mg "zip" = none) (ha : PA X [e, e2] ta)
    (hs : starEach [e, e2] X.env = (false, eval e X.env) :: starEach [e2] X.env := by rfl) (hpl : (backTo pos (starEach [e2] X.env)).any (·.1) = false := by rfl) :
    PI X (.Tuple elts kk tpos) (.Call (.Name "zip" p) [e, e2] [] pos) (iZipG X.K ta) := by
  refine ⟨fun pins s σ H R I h => Call_ (ld_blt I hg hm PyProof.Rows.boot_zip (PyProof.Rows.callWith_type1 (thn (ha.run pos pins s σ H _ I h) fun us s1 hv => ?_) hs hpl))⟩
  obtain ⟨vs, H1, I1, r1, x, y, rfl, g1, g2, q⟩ := hv
  cases r1 with
  | cons r rr =>
    cases rr with
    | cons r' rr =>
      cases rr
      obtain ⟨o1, Hh1, B1, b1, lt1, f1⟩ := side_begins (P := X.prog) (w := X.w) rfl I1 g1 r
      obtain ⟨o2, Hh2, B2, b2, lt2, f2⟩ := side_begins (P := X.prog) (w := X.w) rfl I1 g2 r'
      refine zip_begins2 B1 B2 b1 b2 fun h' hz hTI hTO h1 h2 hsz hk => wpAny_pyIter_zip hz ?_
      have I2 : Inv X pins σ H1 { s1 with heap := h' } := I1.kept (t' := s1.toks) hk
      have nm : ∀ (v : V), (∀ a, v = .ref a → a < s1.heap.objs.size) → ∀ a, v = .ref a → a ∉ [s1.heap.objs.size + 4, s1.heap.objs.size + 2, s1.heap.objs.size + 3, s1.heap.objs.size, s1.heap.objs.size + 1] := fun v lt a e hm => by
        have := lt a e
        have e' : a = s1.heap.objs.size + 4 ∨ a = s1.heap.objs.size + 2 ∨ a = s1.heap.objs.size + 3 ∨ a = s1.heap.objs.size ∨ a = s1.heap.objs.size + 1 := by simpa using hm
        have hge : s1.heap.objs.size ≤ a := by rcases e' with e' | e' | e' | e' | e' <;> (rw [e']; first | exact Nat.le_refl _ | exact Nat.le_add_right _ _)
        exact absurd this (Nat.not_lt.mpr hge)
      obtain ⟨St1, z1, D1⟩ := f1 s1.heap.objs.size fun a e => Nat.ne_of_lt (lt1 a e)
      obtain ⟨St2, z2, D2⟩ := f2 (s1.heap.objs.size + 1) fun a e => Nat.ne_of_lt (Nat.lt_succ_of_lt (lt2 a e))
      have fresh : ∀ c, c ∈ [s1.heap.objs.size + 4, s1.heap.objs.size + 2, s1.heap.objs.size + 3, s1.heap.objs.size, s1.heap.objs.size + 1] → FpOk X pins H1 c := fun c hcm => by
        have e' : c = s1.heap.objs.size + 4 ∨ c = s1.heap.objs.size + 2 ∨ c = s1.heap.objs.size + 3 ∨ c = s1.heap.objs.size ∨ c = s1.heap.objs.size + 1 := by simpa using hcm
        have hle : s1.heap.objs.size ≤ c := by rcases e' with e' | e' | e' | e' | e' <;> (rw [e']; omega)
        exact I1.fpOk hle (I1.hok.fresh hle)
      exact ⟨s1.heap.objs.size + 4, [s1.heap.objs.size + 4, s1.heap.objs.size + 2, s1.heap.objs.size + 3, s1.heap.objs.size, s1.heap.objs.size + 1], _, _, H1, rfl, I2, turn_zipG D1 D2 (by simp) (nm _ lt1) (nm _ lt2), ⟨hz, hTI, ⟨_, _, hTO⟩, z1 h' h1, z2 h' h2, Nat.zero_le _, Nat.zero_le _⟩, fresh, q⟩
section
variable {K Kc : PySem.W.Frag} {G G' G'' H H' H'' : Hp} {Z : Addr → Prop} {ι ι' ι'' : List Addr} {M M' : Store} {Γ Γ' : Env} {σ σ' : L2.St}
variable {P : Program} {w : World} {mg : Str → Option Value} {base : Heap} {X : Cx} {N : List Str} {sc : Scope} {Wx : WX} {k kk : Nat} {a b : Expr} {af : AF} {elts : List Expr} {p pos tpos : Pos}
/-- a side, as data -/
def sideW : W → Option (List D)
  | .d (.lst ds) => some ds
  | .d (.rol ds) => some ds
  | .d (.tup ds) => some ds
  | .d (.str z) => some (z.cps.toList.map fun c => .str ⟨#[c]⟩)
  | _ => none
theorem sideW_rep {v : V} {w : W} {ds : List D} (r : RW K ι G v w) (h : sideW w = some ds) : ∃ x : SK, v = x.v ∧ (∀ H, Same G H → x.ok K H) ∧ x.n = ds.length ∧ ∀ i d v, ds[i]? = some d → x.W i v → Rep K G v d := by
  have lst : ∀ {vs : List V} {es : List D} {i : Nat} {d : D} {v : V}, RepL K G vs es → es[i]? = some d → vs[i]? = some v → Rep K G v d := fun {vs es i d v} r hd hv => by
    obtain ⟨u, hu, q⟩ := r.get hd
    rw [hu] at hv
    cases hv
    exact q
  unfold sideW at h
  split at h
  · cases h
    cases r with
    | d r => cases r with
      | @lst a vs _ h r => exact ⟨.l a vs, rfl, fun H s => s.seq (SqL.of h), r.length, fun i d v hd hv => lst r hd hv⟩
  · cases h
    cases r with
    | d r => cases r with
      | @rol a vs _ h r => exact ⟨.l a vs, rfl, fun H s => s.seq h, r.length, fun i d v hd hv => lst r hd hv⟩
  · cases h
    cases r with
    | d r => cases r with
      | @tup a vs _ h r => exact ⟨.t a vs, rfl, fun H s => Same.seqT s h, r.length, fun i d v hd hv => lst r hd hv⟩
  · cases h
    cases r with
    | d r => cases r with
      | str =>
        refine ⟨.s _, rfl, fun _ _ => trivial, by simp [SK.n], fun i d v hd hv => ?_⟩
        obtain ⟨c, hc, rfl⟩ := hv
        rw [List.getElem?_map, Array.getElem?_toList, hc] at hd
        cases hd
        exact .str _
  · cases h
theorem jok_zipG {x y : SK} {ds es : List D} (hx : ∀ H, Same G H → x.ok K H) (hy : ∀ H, Same G H → y.ok K H) (nx : x.n = ds.length) (ny : y.n = es.length) (wx : ∀ i d v, ds[i]? = some d → x.W i v → Rep K G v d) (wy : ∀ i d v, es[i]? = some d → y.W i v → Rep K G v d) : JOk K (ItzG K x y) G (zipD ds es) := by
  refine ⟨fun i G1 H1 s s' hi => ?_, fun i G1 H1 v H2 d s s' hd y => ?_, fun i G1 H1 s s' hi => ?_⟩
  · rw [zipD_len] at hi
    exact ⟨hx _ (s.trans s'), hy _ (s.trans s'), by omega, by omega⟩
  · obtain ⟨T, p, q, rfl, hT, rfl, h1, h2⟩ := y
    obtain ⟨da, db, e1, e2, rfl⟩ := zipD_get _ _ _ _ hd
    exact newTup (sm := s') hT ((wx _ _ _ e1 h1).mono s) ((wy _ _ _ e2 h2).mono s)
  · rw [zipD_len] at hi
    exact ⟨hx _ (s.trans s'), hy _ (s.trans s'), by omega⟩
def iZipGF (f : AF) : IF := fun Γ M => bnd (f Γ M) fun ws M1 => match ws with
  | [w, w'] => (sideW w).bind fun ds => (sideW w').map fun es => .ok (zipD ds es) M1
  | _ => none
theorem di_zipG (C : Ctx P w Kc mg base X N sc Wx k) (hm : mg "zip" = none) (ha : DA X Wx Z [a, b] af) (hg : sc.names.lookup ("zip" : Str) = some .globalImplicit := by rfl) (hs : starEach [a, b] X.env = (false, eval a X.env) :: starEach [b] X.env := by rfl) (hpl : (backTo pos (starEach [b] X.env)).any (·.1) = false := by rfl) :
    DI X Wx Z (.Tuple elts kk tpos) (.Call (.Name "zip" p) [a, b] [] pos) (iZipGF af) := by
  obtain ⟨⟨ta, pa, oa⟩, len⟩ := ha
  refine ⟨_, pi_zipG (C.g hg) (C.m hm) pa hs hpl, fun ι M Γ σ G H out R s e q => ?_⟩
  refine oa.then s e (fun x M' ex => by subst ex; exact q) fun ws M1 e1 e0 ι1 G1 H1 vs s1 x1 r1 => ?_
  split at e1
  · cases r1 with
    | cons r t =>
      cases t with
      | cons r' t =>
        cases t
        obtain ⟨ds, h, e1⟩ := Option.bind_eq_some_iff.mp e1
        obtain ⟨es, h', rfl⟩ := Option.map_eq_some_iff.mp e1
        obtain ⟨x, rfl, ox, nx, wx⟩ := sideW_rep r h
        obtain ⟨y, rfl, oy, ny, wy⟩ := sideW_rep r' h'
        exact ⟨x, y, rfl, ox _ s1.cr.sub, oy _ s1.cr.sub, q ι1 G1 H1 _ s1 x1 (jok_zipG ox oy nx ny wx wy)⟩
  · cases e1
end
end DL

set_option Elab.async false
set_option linter.all false
set_option maxRecDepth 100000
set_option autoImplicit false
set_option maxHeartbeats 1000000
namespace DL
open PySem PySem.Spec PyProof.Rows L2
variable [PWd]
variable {K Kc : PySem.W.Frag} {G G' G'' H H' H'' : Hp} {Z : Addr → Prop} {ι ι' ι'' : List Addr} {M M' : Store} {Γ Γ' : Env} {σ σ' : L2.St}
section
variable {P : Program} {w : World} {mg : Str → Option Value} {base : Heap} {X : Cx} {N : List Str} {sc : Scope} {Wx : WX} {k : Nat} {e : Expr} {f : EF} {u v : SF} {st : Stmt} {rest : List Stmt} {pos : Pos}
/-! ### an own cell is data from now on -/
def frzE (i : Nat) (Γ : Env) (M : Store) : Option SO := match Γ[i]? with
  | some (some (.r j)) => (rdC M[j]?).map fun d => .nx (Γ.set i (some (.d d))) (M.set j .dead)
  | _ => none
/-- .. behind a statement -/
def sFrz (i : Nat) (u : SF) : SF := fun Γ M => match u Γ M with
  | some (.nx Γ' M') => frzE i Γ' M'
  | o => o
def frzD (D : Ends) : Ends := { D with nx := fun σ H => D.nx σ H ∨ ∃ d u, H d = some u ∧ Mut (some u) ∧ ∀ od, D.nx σ (upd H d (.frz od u)) }
theorem ps_frz {t : TS} (h : PS X st t) : PS X st (fun D σ H => t (frzD D) σ H) := by
  refine ⟨fun pins s σ H D I hu => thn (h.run pins s σ H _ I hu) fun fl s1 hs => ?_⟩
  cases fl with
  | next =>
    obtain ⟨σ1, H1, I1, q⟩ := hs
    rcases q with q | ⟨d, o, hd, mu, q⟩
    · exact ⟨σ1, H1, I1, q⟩
    · obtain ⟨od, I2⟩ := I1.lock hd mu
      exact ⟨σ1, _, I2, q od⟩
  | brk => exact hs
  | cont => exact hs
  | ret u => exact hs
/-- the slot holds data from now on -/
theorem SR.toData (s : SR K Z ι M Γ σ G H) {i j : Nat} {a : Addr} (hi : Γ[i]? = some (some (.r j))) (hj : ι[j]? = some a) {G' H' : Hp} (c : CRel K Z ι (M.set j .dead) G' H') (sm : Same G G') {d : D} (r : Rep K G' (.ref a) d) : SR K Z ι (M.set j .dead) (Γ.set i (some (.d d))) σ G' H' := by
  refine ⟨c, fun n w h => ?_, by simp [s.lg]⟩
  by_cases e : i = n
  · subst e
    rw [List.getElem?_set_self (List.getElem?_eq_some_iff.mp hi).1] at h
    cases h
    obtain ⟨v, h1, h2⟩ := s.sl i _ hi
    cases h2 with
    | r h2 =>
      rw [hj] at h2
      cases h2
      exact ⟨_, h1, .d r⟩
  · rw [List.getElem?_set_ne e] at h
    obtain ⟨v, h1, h2⟩ := s.sl n w h
    have := h2.mono (l := []) sm
    rw [List.append_nil] at this
    exact ⟨v, h1, this⟩
theorem ds_frz (i : Nat) (h : DS X Wx Z st u) : DS X Wx Z st (sFrz i u) := by
  obtain ⟨t, pt, ot⟩ := h
  refine ⟨_, ps_frz pt, fun ι M Γ σ G H out D s e q => ?_⟩
  unfold sFrz at e
  cases z : u Γ M with
  | none => rw [z] at e; cases e
  | some o =>
    rw [z] at e
    refine ot ι M Γ σ G H o _ s z ?_
    cases o with
    | rt w1 M1 => cases e; exact q
    | bk Γ1 M1 => cases e; exact q
    | ct Γ1 M1 => cases e; exact q
    | ex x Γ1 M1 => cases e; exact q
    | nx Γ1 M1 =>
      intro ι1 G1 H1 σ1 s1 x1
      dsimp only at e
      unfold frzE at e
      split at e
      · rename_i j hi
        obtain ⟨d, hd, rfl⟩ := Option.map_eq_some_iff.mp e
        obtain ⟨v, _, hv⟩ := s1.sl i _ hi
        cases hv with
        | @r a _ hj =>
          cases hc : M1[j]? with
          | none => rw [hc] at hd; cases hd
          | some y =>
            rw [hc] at hd
            have live : M1[j]? ≠ some Cell.dead := fun z => by rw [z] at hc; cases hc; cases hd
            have ok := s1.cr.ct j a y hj hc
            generalize ho : H1 a = o at ok
            cases ok with
            | dead => cases hd
            | lst r =>
              cases hd
              obtain ⟨c', sm⟩ := s1.cr.freeze hj ho
              have x2 : Ext Z ι1 G1 H1 ι1 (upd G1 a (.lst _)) H1 := ⟨⟨[], by simp⟩, sm live, fun _ _ => rfl⟩
              exact .inl (q ι1 _ _ σ1 (s1.toData hi hj c' (sm live) (.lst upd_same (r.mono (sm live)))) (x1.trans x2))
            | @dic vs ds r =>
              cases hd
              refine .inr ⟨a, _, ho, trivial, fun od => ?_⟩
              obtain ⟨c', sm⟩ := s1.cr.freezeD (o := .frz od _) hj ho live
              have x2 : Ext Z ι1 G1 H1 ι1 (upd G1 a (.frz od (.dK vs))) (upd H1 a (.frz od (.dK vs))) := ⟨⟨[], by simp⟩, sm, fun b hb => upd_ne fun z => s1.cr.dj a (List.mem_of_getElem? hj) (by rw [← z]; exact hb)⟩
              exact q ι1 _ _ σ1 (s1.toData hi hj c' sm (.dic upd_same (r.mono sm))) (x1.trans x2)
            | ins r =>
              cases hd
              obtain ⟨c', sm⟩ := s1.cr.freeze hj ho
              have x2 : Ext Z ι1 G1 H1 ι1 (upd G1 a (.ins _ _ _)) H1 := ⟨⟨[], by simp⟩, sm live, fun _ _ => rfl⟩
              exact .inl (q ι1 _ _ σ1 (s1.toData hi hj c' (sm live) (.ins upd_same (r.mono (sm live)))) (x1.trans x2))
      · cases e
end
end DL

set_option Elab.async false
set_option linter.all false
set_option maxRecDepth 100000
set_option autoImplicit false
set_option maxHeartbeats 1000000
namespace DL
open PySem PySem.Spec PyProof.Rows L2
variable [PWd]
variable {K Kc : PySem.W.Frag} {G G' G'' H H' H'' : Hp} {Z : Addr → Prop} {ι ι' ι'' : List Addr} {M M' : Store} {Γ Γ' : Env} {σ σ' : L2.St}
/-! ### a text's letters -/
def chD (z : Str) : List D := z.cps.toList.map fun c => .str ⟨#[c]⟩
def chV (z : Str) : List V := z.cps.toList.map fun c => .str ⟨#[c]⟩
theorem chs_rep {z : Str} : RepL K G (chV z) (chD z) := by
  have go : ∀ l : List Nat, RepL K G (l.map fun c => V.str ⟨#[c]⟩) (l.map fun c => D.str ⟨#[c]⟩) := fun l => by
    induction l with
    | nil => exact .nil
    | cons a l ih => exact .cons (.str _) ih
  exact go _
theorem chs_vals {z : Str} {acc : Array Value} (h : ItemsOf (SignAt z) acc z.cps.size) : Vals (chV z) acc.toList := by
  have go : ∀ (l : List Nat) (vs : List Value), vs.length = l.length → (∀ (j : Nat) (v : Value), vs[j]? = some v → ∃ c u, l[j]? = some c ∧ v = .str ⟨#[c]⟩ u) → Vals (l.map fun c => V.str ⟨#[c]⟩) vs := by
    intro l
    induction l with
    | nil => intro vs hl _; cases vs with
      | nil => exact .nil
      | cons v vs => cases hl
    | cons a l ih => intro vs hl h; cases vs with
      | nil => cases hl
      | cons v vs =>
        obtain ⟨c, u, e1, rfl⟩ := h 0 v rfl
        cases e1
        exact .cons ⟨u, rfl⟩ (ih vs (by simpa using hl) fun j w hw => h (j + 1) w hw)
  refine go z.cps.toList acc.toList (by simp [h.1]) fun j v hv => ?_
  rw [Array.getElem?_toList] at hv
  obtain ⟨c, u, e1, e2⟩ := h.2 j v hv
  exact ⟨c, u, by rw [Array.getElem?_toList]; exact e1, e2⟩
section
variable {X : Cx}
def rLStr : List V → Hp → VK → Prop := fun xs H Q => ∃ z : Str, xs = [.str z] ∧ z.cps.size ≤ sizeLine ∧ ∀ p, H p = none → Q (.ref p) (upd H p (.lst (chV z)))
def rTStr : List V → Hp → VK → Prop := fun xs H Q => ∃ z : Str, xs = [.str z] ∧ z.cps.size ≤ sizeLine ∧ ∀ p, H p = none → Q (.ref p) (upd H p (.tup (chV z)))
theorem call_lStr (hc : X.calm = true) : CallR X (.type "list") rLStr := by
  intro pins s σ H xs us Q I r h
  obtain ⟨z, rfl, hz, q⟩ := h
  obtain ⟨u, rfl, t, rfl⟩ := vals1 r
  refine call_list_str (I.ok.hd hc) z t (fun h' tk acc c hk hn hi => ?_) hz
  refine ⟨.ref _, _, I.laid (t' := tk) (o := .lst (chV z)) hk (Nat.le_refl _) ⟨?_, acc.toList, c, chs_vals hi, by simpa using hn⟩, rfl, q _ I.fresh⟩
  show (chV z).length ≤ sizeLine
  unfold chV
  simpa using hz
theorem call_tStr (hc : X.calm = true) : CallR X (.type "tuple") rTStr := by
  intro pins s σ H xs us Q I r h
  obtain ⟨z, rfl, hz, q⟩ := h
  obtain ⟨u, rfl, t, rfl⟩ := vals1 r
  refine call_tuple_str (I.ok.hd hc) z t (fun h' tk acc hk hi => ?_) hz
  have I1 : Inv X pins σ H { s with heap := h', toks := tk } := I.kept (t' := tk) hk
  refine ⟨.ref _, _, I1.laid (t' := tk) (o := .tup (chV z)) (fun b u e => Heap.get?_push_of_some _ e) (Nat.le_refl _) ⟨?_, acc.toList, chs_vals hi, _, Heap.get?_push_size _ rfl, rfl, 0, by simp⟩, rfl, q _ I1.fresh⟩
  show (chV z).length ≤ sizeLine
  unfold chV
  simpa using hz
def listStr : List D → Option (List D)
  | [.str z] => if z.cps.size ≤ sizeLine then some (chD z) else none
  | _ => none
def tupleStr : List D → Option D
  | [.str z] => if z.cps.size ≤ sizeLine then some (.tup (chD z)) else none
  | _ => none
theorem s_listStr : CallL X rLStr listStr := fun G H xs as ds Q sm rx e q => by
  unfold listStr at e
  split at e
  · split at e
    · cases e
      obtain ⟨v, rfl, r⟩ := rb1 rx
      rw [r.str]
      exact ⟨_, rfl, by assumption, fun p hp => q p _ G H (Grow.refl sm) chs_rep hp⟩
    · cases e
  · cases e
theorem s_tupleStr : CallS X rTStr tupleStr := fun G H xs as d Q sm rx e q => by
  unfold tupleStr at e
  split at e
  · split at e
    · cases e
      obtain ⟨v, rfl, r⟩ := rb1 rx
      rw [r.str]
      rename_i z _
      refine ⟨z, rfl, by assumption, fun p hp => ?_⟩
      have gw := Grow.one (o := .tup (chV z)) sm hp
      exact q _ _ _ gw (.tup (SqT.of upd_same) (chs_rep.mono gw.g))
    · cases e
  · cases e
theorem CallL.or {r r' : List V → Hp → VK → Prop} {h h' : List D → Option (List D)} (a : CallL X r h) (b : CallL X r' h') : CallL X (fun vs H Q => r vs H Q ∨ r' vs H Q) (fun as => match h as with | some d => some d | none => h' as) := fun G H xs as ds Q sm rx e q => by
  dsimp only at e
  cases z : h as with
  | some d => rw [z] at e; cases e; exact .inl (a G H xs as _ Q sm rx z q)
  | none => rw [z] at e; exact .inr (b G H xs as ds Q sm rx e q)
end
/-- a list of a list, a tuple, a text, a dict -/
def listA : List D → Option (List D) := fun as => match listOf as with
  | some d => some d
  | none => match listStr as with
    | some d => some d
    | none => keysOf as
def tupleA : List D → Option D := orC tupleOf tupleStr
def intA : List D → Option D := intD
def strA : List D → Option D := strD
section
variable {P : Program} {w : World} {mg : Str → Option Value} {base : Heap} {X : Cx} {N : List Str} {sc : Scope} {Wx : WX} {k : Nat} {e e2 : Expr} {af : AF} {p pos : Pos}

theorem de_abs (C : Ctx P w Kc mg base X N sc Wx k) (hm : mg "abs" = none) (ha : DA X Wx Z [e] af) (hg : sc.names.lookup ("abs" : Str) = some .globalImplicit := by rfl) (he : starEach [e] X.env = (false, eval e X.env) :: starEach [] X.env := by rfl) (hpl : (backTo pos (starEach [] X.env)).any (·.1) = false := by rfl) :
    DE X Wx Z (.Call (.Name "abs" p) [e] [] pos) (eCall absD af) := de_bif C (call_abs) (s_abs) hm ha boot_abs hg (by decide) (by decide) he hpl

theorem de_toint (C : Ctx P w Kc mg base X N sc Wx k) (hm : mg "int" = none) (ha : DA X Wx Z [e] af) (hg : sc.names.lookup ("int" : Str) = some .globalImplicit := by rfl) (he : starEach [e] X.env = (false, eval e X.env) :: starEach [] X.env := by rfl) (hpl : (backTo pos (starEach [] X.env)).any (·.1) = false := by rfl) :
    DE X Wx Z (.Call (.Name "int" p) [e] [] pos) (eCall intD af) := de_bty C (call_int1) (s_int) hm ha boot_int hg (by decide) (by decide) he hpl

theorem de_sum (C : Ctx P w Kc mg base X N sc Wx k) (hm : mg "sum" = none) (ha : DA X Wx Z [e] af) (hg : sc.names.lookup ("sum" : Str) = some .globalImplicit := by rfl) (he : starEach [e] X.env = (false, eval e X.env) :: starEach [] X.env := by rfl) (hpl : (backTo pos (starEach [] X.env)).any (·.1) = false := by rfl) :
    DE X Wx Z (.Call (.Name "sum" p) [e] [] pos) (eCall sumD af) := de_bif C (cr_sum C.calm) (s_sum) hm ha boot_sum hg (by decide) (by decide) he hpl

theorem de_max1 (C : Ctx P w Kc mg base X N sc Wx k) (hm : mg "max" = none) (ha : DA X Wx Z [e] af) (hg : sc.names.lookup ("max" : Str) = some .globalImplicit := by rfl) (he : starEach [e] X.env = (false, eval e X.env) :: starEach [] X.env := by rfl) (hpl : (backTo pos (starEach [] X.env)).any (·.1) = false := by rfl) :
    DE X Wx Z (.Call (.Name "max" p) [e] [] pos) (eCall max1D af) := de_bif C (cr_max C.calm) (s_max1) hm ha boot_max hg (by decide) (by decide) he hpl

theorem de_min1 (C : Ctx P w Kc mg base X N sc Wx k) (hm : mg "min" = none) (ha : DA X Wx Z [e] af) (hg : sc.names.lookup ("min" : Str) = some .globalImplicit := by rfl) (he : starEach [e] X.env = (false, eval e X.env) :: starEach [] X.env := by rfl) (hpl : (backTo pos (starEach [] X.env)).any (·.1) = false := by rfl) :
    DE X Wx Z (.Call (.Name "min" p) [e] [] pos) (eCall min1D af) := de_bif C (cr_min C.calm) (s_min1) hm ha boot_min hg (by decide) (by decide) he hpl

theorem de_max2 (C : Ctx P w Kc mg base X N sc Wx k) (hm : mg "max" = none) (ha : DA X Wx Z [e, e2] af) (hg : sc.names.lookup ("max" : Str) = some .globalImplicit := by rfl) (he : starEach [e, e2] X.env = (false, eval e X.env) :: starEach [e2] X.env := by rfl) (hpl : (backTo pos (starEach [e2] X.env)).any (·.1) = false := by rfl) :
    DE X Wx Z (.Call (.Name "max" p) [e, e2] [] pos) (eCall max2D af) := de_bif C (call_max2 C.calm) (s_max2) hm ha boot_max hg (by decide) (by decide) he hpl

theorem de_min2 (C : Ctx P w Kc mg base X N sc Wx k) (hm : mg "min" = none) (ha : DA X Wx Z [e, e2] af) (hg : sc.names.lookup ("min" : Str) = some .globalImplicit := by rfl) (he : starEach [e, e2] X.env = (false, eval e X.env) :: starEach [e2] X.env := by rfl) (hpl : (backTo pos (starEach [e2] X.env)).any (·.1) = false := by rfl) :
    DE X Wx Z (.Call (.Name "min" p) [e, e2] [] pos) (eCall min2D af) := de_bif C (call_min2 C.calm) (s_min2) hm ha boot_min hg (by decide) (by decide) he hpl

theorem de_all (C : Ctx P w Kc mg base X N sc Wx k) (hm : mg "all" = none) (ha : DA X Wx Z [e] af) (hg : sc.names.lookup ("all" : Str) = some .globalImplicit := by rfl) (he : starEach [e] X.env = (false, eval e X.env) :: starEach [] X.env := by rfl) (hpl : (backTo pos (starEach [] X.env)).any (·.1) = false := by rfl) :
    DE X Wx Z (.Call (.Name "all" p) [e] [] pos) (eCall allBD af) := de_bif C (cr_all C.calm) (s_all) hm ha boot_all hg (by decide) (by decide) he hpl

theorem de_any (C : Ctx P w Kc mg base X N sc Wx k) (hm : mg "any" = none) (ha : DA X Wx Z [e] af) (hg : sc.names.lookup ("any" : Str) = some .globalImplicit := by rfl) (he : starEach [e] X.env = (false, eval e X.env) :: starEach [] X.env := by rfl) (hpl : (backTo pos (starEach [] X.env)).any (·.1) = false := by rfl) :
    DE X Wx Z (.Call (.Name "any" p) [e] [] pos) (eCall anyBD af) := de_bif C (cr_any C.calm) (s_any) hm ha boot_any hg (by decide) (by decide) he hpl

theorem de_isa (C : Ctx P w Kc mg base X N sc Wx k) (hm : mg "isinstance" = none) (ha : DA X Wx Z [e, e2] af) (hg : sc.names.lookup ("isinstance" : Str) = some .globalImplicit := by rfl) (he : starEach [e, e2] X.env = (false, eval e X.env) :: starEach [e2] X.env := by rfl) (hpl : (backTo pos (starEach [e2] X.env)).any (·.1) = false := by rfl) :
    DE X Wx Z (.Call (.Name "isinstance" p) [e, e2] [] pos) (eCall isaD af) := de_bif C (call_isi) (s_isa) hm ha boot_isinstance hg (by decide) (by decide) he hpl

theorem de_sortedD (C : Ctx P w Kc mg base X N sc Wx k) (hm : mg "sorted" = none) (ha : DA X Wx Z [e] af) (hg : sc.names.lookup ("sorted" : Str) = some .globalImplicit := by rfl) (he : starEach [e] X.env = (false, eval e X.env) :: starEach [] X.env := by rfl) (hpl : (backTo pos (starEach [] X.env)).any (·.1) = false := by rfl) :
    DE X Wx Z (.Call (.Name "sorted" p) [e] [] pos) (eCall (mkL sortedD) af) := de_bif C (cr_sortedG C.room) (s_sorted.s) hm ha boot_sorted hg (by decide) (by decide) he hpl

theorem de_sortedC (C : Ctx P w Kc mg base X N sc Wx k) (hm : mg "sorted" = none) (ha : DA X Wx Z [e] af) (hg : sc.names.lookup ("sorted" : Str) = some .globalImplicit := by rfl) (he : starEach [e] X.env = (false, eval e X.env) :: starEach [] X.env := by rfl) (hpl : (backTo pos (starEach [] X.env)).any (·.1) = false := by rfl) :
    DE X Wx Z (.Call (.Name "sorted" p) [e] [] pos) (eCallC sortedD af) := de_bifC C (cr_sortedG C.room) (s_sorted) hm ha boot_sorted hg (by decide) (by decide) he hpl

theorem de_tuple (C : Ctx P w Kc mg base X N sc Wx k) (hm : mg "tuple" = none) (ha : DA X Wx Z [e] af) (hg : sc.names.lookup ("tuple" : Str) = some .globalImplicit := by rfl) (he : starEach [e] X.env = (false, eval e X.env) :: starEach [] X.env := by rfl) (hpl : (backTo pos (starEach [] X.env)).any (·.1) = false := by rfl) :
    DE X Wx Z (.Call (.Name "tuple" p) [e] [] pos) (eCall tupleA af) := de_bty C (CallR.or call_tuple_of (call_tStr C.calm)) (CallS.or s_tuple s_tupleStr) hm ha boot_tuple hg (by decide) (by decide) he hpl

theorem de_listC (C : Ctx P w Kc mg base X N sc Wx k) (hm : mg "list" = none) (ha : DA X Wx Z [e] af) (hg : sc.names.lookup ("list" : Str) = some .globalImplicit := by rfl) (he : starEach [e] X.env = (false, eval e X.env) :: starEach [] X.env := by rfl) (hpl : (backTo pos (starEach [] X.env)).any (·.1) = false := by rfl) :
    DE X Wx Z (.Call (.Name "list" p) [e] [] pos) (eCallC listA af) := de_btyC C (CallR.or call_list_of (CallR.or (call_lStr C.calm) (call_listD C.calm))) (CallL.or s_list (CallL.or s_listStr s_listKeys)) hm ha boot_list hg (by decide) (by decide) he hpl

theorem de_listD (C : Ctx P w Kc mg base X N sc Wx k) (hm : mg "list" = none) (ha : DA X Wx Z [e] af) (hg : sc.names.lookup ("list" : Str) = some .globalImplicit := by rfl) (he : starEach [e] X.env = (false, eval e X.env) :: starEach [] X.env := by rfl) (hpl : (backTo pos (starEach [] X.env)).any (·.1) = false := by rfl) :
    DE X Wx Z (.Call (.Name "list" p) [e] [] pos) (eCall (mkL listA) af) := de_bty C (CallR.or call_list_of (CallR.or (call_lStr C.calm) (call_listD C.calm))) (CallL.s (CallL.or s_list (CallL.or s_listStr s_listKeys))) hm ha boot_list hg (by decide) (by decide) he hpl

theorem de_tostr (C : Ctx P w Kc mg base X N sc Wx k) (hm : mg "str" = none) (ha : DA X Wx Z [e] af) (hg : sc.names.lookup ("str" : Str) = some .globalImplicit := by rfl) (he : starEach [e] X.env = (false, eval e X.env) :: starEach [] X.env := by rfl) (hpl : (backTo pos (starEach [] X.env)).any (·.1) = false := by rfl) :
    DE X Wx Z (.Call (.Name "str" p) [e] [] pos) (eCall strD af) := de_bty C (call_str_int) (s_strI) hm ha boot_str hg (by decide) (by decide) he hpl

end
end DL

set_option Elab.async false
set_option linter.all false
set_option maxRecDepth 100000
set_option autoImplicit false
set_option maxHeartbeats 1000000
namespace DL
open PySem PySem.Spec PyProof.Rows L2
variable [PWd]
variable {K Kc : PySem.W.Frag} {G G' G'' H H' H'' : Hp} {Z : Addr → Prop} {ι ι' ι'' : List Addr} {M M' : Store} {Γ Γ' : Env} {σ σ' : L2.St}
/-- of the cells behind the n-th one is kept -/
theorem CRel.pick (c : CRel K Z ι M G H) {n i : Nat} (hi : n ≤ i) {a : Addr} (ha : ι[i]? = some a) {x : Cell} (hx : M[i]? = some x) : CRel K Z (ι.take n ++ [a]) (M.take n ++ [x]) G H := by
  have c1 := c.trim n
  have am : a ∉ ι.take n := fun h => by
    obtain ⟨j, hj⟩ := List.mem_iff_getElem?.mp h
    rw [List.getElem?_take] at hj
    split at hj
    · rename_i hl
      have h1 := List.getElem?_eq_some_iff.mp hj
      have h2 := List.getElem?_eq_some_iff.mp ha
      have := (List.getElem_inj c.nd).mp (h1.2.trans h2.2.symm)
      omega
    · cases hj
  have nl : n ≤ ι.length := by have := (List.getElem?_eq_some_iff.mp ha).1; omega
  have l1 : (ι.take n).length = n := by rw [List.length_take]; omega
  have l2 : (M.take n).length = n := by rw [List.length_take, ← c.ln]; omega
  have at_ : ∀ (j : Nat) (b : Addr) , (ι.take n ++ [a])[j]? = some b → ((ι.take n)[j]? = some b ∧ j < n) ∨ (j = n ∧ b = a) := fun j b h => by
    by_cases hj : j < n
    · rw [List.getElem?_append_left (by rw [l1]; exact hj)] at h
      exact .inl ⟨h, hj⟩
    · rw [List.getElem?_append_right (by rw [l1]; omega), l1] at h
      cases e : j - n with
      | zero => rw [e] at h; cases h; exact .inr ⟨by omega, rfl⟩
      | succ m => rw [e] at h; simp at h
  have get : ∀ (j : Nat) (y : Cell), (M.take n ++ [x])[j]? = some y → ((M.take n)[j]? = some y ∧ j < n) ∨ (j = n ∧ y = x) := fun j b h => by
    by_cases hj : j < n
    · rw [List.getElem?_append_left (by rw [l2]; exact hj)] at h
      exact .inl ⟨h, hj⟩
    · rw [List.getElem?_append_right (by rw [l2]; omega), l2] at h
      cases e : j - n with
      | zero => rw [e] at h; cases h; exact .inr ⟨by omega, rfl⟩
      | succ m => rw [e] at h; simp at h
  refine ⟨by rw [List.length_append, List.length_append, l1, l2]; rfl, ?_, fun b h => ?_, c.sub, c.zf, c.zh, fun b h => ?_, fun j b h1 h2 => ?_, fun j b y h1 h2 => ?_, fun j b h1 h2 => ?_⟩
  · rw [List.nodup_append]
    exact ⟨c1.nd, by simp, fun b h d hd => by rw [List.mem_singleton.mp hd]; exact fun z => am (by rw [← z]; exact h)⟩
  · rcases List.mem_append.mp h with h | h
    · exact c1.dj b h
    · rw [List.mem_singleton.mp h]; exact c.dj a (List.mem_of_getElem? ha)
  · rcases List.mem_append.mp h with h | h
    · exact c1.ch b h
    · rw [List.mem_singleton.mp h]; exact c.ch a (List.mem_of_getElem? ha)
  · rcases at_ j b h1 with ⟨h, hj⟩ | ⟨rfl, rfl⟩
    · rw [List.getElem?_append_left (by rw [l2]; exact hj)] at h2
      exact c1.cf j b h h2
    · rw [List.getElem?_append_right (by rw [l2]; exact Nat.le_refl _), l2, Nat.sub_self] at h2
      exact c.cf i b ha (by rw [hx]; exact h2)
  · rcases at_ j b h1 with ⟨h, hj⟩ | ⟨e1, e2⟩
    · rcases get j y h2 with ⟨h', _⟩ | ⟨e, _⟩
      · exact c1.ct j b y h h'
      · omega
    · rcases get j y h2 with ⟨_, h'⟩ | ⟨_, e3⟩
      · omega
      · rw [e2, e3]; exact c.ct i a x ha hx
  · rcases at_ j b h1 with ⟨h, hj⟩ | ⟨rfl, rfl⟩
    · rw [List.getElem?_append_left (by rw [l2]; exact hj)] at h2
      exact c1.df j b h h2
    · rw [List.getElem?_append_right (by rw [l2]; exact Nat.le_refl _), l2, Nat.sub_self] at h2
      exact c.df i b ha (by rw [hx]; exact h2)
/-- what comes back is a new cell, the def's other ones are forgotten -/
def cutC (n : Nat) (o : Option (Out W)) : Option (Out W) := match o with
  | some (.ok (.r i) M') => if n ≤ i then (M'[i]?).map fun c => .ok (.r n) (M'.take n ++ [c]) else none
  | some (.exc x M') => some (.exc x (M'.take n))
  | _ => none
def eCallC' (F : FF) (f : AF) : EF := fun Γ M => bnd (f Γ M) fun ws M1 => cutC M1.length (F ws M1)
section
variable {P : Program} {w : World} {mg : Str → Option Value} {base : Heap}
variable {X : Cx} {N : List Str} {sc : Scope} {Wx : WX} {k kk n : Nat} {e : Expr} {es : List Expr} {f g h' : EF} {t u : TF} {af : AF} {pos p : Pos} {F : FF} {fa : Addr} {fd : FuncData} {ps : List Str} {x : Str}
theorem sp_callC (s : SR X.K Z ι M Γ σ G H) {vs : List V} {ws : List W} {out : Out W} {Q : VK} (rl : RWs X.K ι G vs ws) (hn : ws.length = n) (e : cutC M.length (F ws M) = some out) (q : EPost X Wx Z ι Γ σ G H Q out) :
    spF X.K n F vs H Q (fun c d H' => Wx c d σ H') := by
  cases z : F ws M with
  | none => rw [z] at e; cases e
  | some o =>
    rw [z] at e
    refine ⟨Z, ι, M, G, ws, o, s.cr, rl, hn, z, ?_⟩
    cases o with
    | exc xx M' =>
      cases e
      intro ι' G' H' c d c' x' r'
      obtain ⟨s2, x2⟩ := s.cut x' c'
      exact q ι G' H' c d s2 x2 r'
    | ok w M' =>
      intro ι' G' H' v c' x' r'
      cases w with
      | d xx => cases e
      | r i =>
        have e : (if M.length ≤ i then (M'[i]?).map fun c => Out.ok (W.r M.length) (M'.take M.length ++ [c]) else none) = some out := e
        by_cases hi : M.length ≤ i
        · rw [if_pos hi] at e
          obtain ⟨y, hy, rfl⟩ := Option.map_eq_some_iff.mp e
          cases r' with
          | @r a _ ha =>
            have c2 := c'.pick hi ha hy
            obtain ⟨l, el⟩ := x'.pre
            have et : ι'.take M.length = ι := by rw [el, ← s.cr.ln, List.take_left]
            rw [et] at c2
            have x2 : Ext Z ι G H (ι ++ [a]) G' H' := ⟨⟨[a], rfl⟩, x'.sm, x'.zs⟩
            exact q (ι ++ [a]) G' H' _ (s.at x2 c2) x2 (.r (by rw [← s.cr.ln]; simp))
        · rw [if_neg hi] at e
          cases e
theorem de_callC (C : Ctx P w K mg base X N sc Wx k) (Fo : FnG P w K mg base (L2.CX P w) kk fa fd ps (spF K n F)) (hk : kk ≤ k) (hm : mg x = some (.ref fa)) (kp : PySem.W.keepIn K (.ref fa) = true) (hb : Binds K fd ps []) (ha : DA X Wx Z (e :: es) af) (hn : (e :: es).length = n := by rfl)
    (hg : sc.names.lookup x = some .globalImplicit := by rfl) (hdb : (x == ("__debug__" : Str)) = false := by decide) (he : starEach (e :: es) X.env = (false, eval e X.env) :: starEach es X.env := by rfl) (hpl : (backTo pos (starEach es X.env)).any (·.1) = false := by rfl) :
    DE X Wx Z (.Call (.Name x p) (e :: es) [] pos) (eCallC' F af) := by
  obtain ⟨⟨ta, pa, oa⟩, len⟩ := ha
  have hg := C.g hg
  have room := C.room
  have gd := C.gd
  have tk := C.tk
  obtain ⟨rfl, rfl, rfl, rfl, rfl, _⟩ := C
  refine ⟨_, pe_callG (E := WE Wx) Fo (room.mono hk) gd hg hm kp hb (passAt tk) pa hdb he hpl, fun ι M Γ σ G H out Q s e q => ?_⟩
  refine oa.then s e (EPost.x q) fun ws M1 e1 e0 ι1 G1 H1 vs s1 x1 r1 => ?_
  exact sp_callC s1 r1 (by rw [← hn]; exact len _ _ _ _ e0) e1 (q.ext x1)
/-- a call without arguments that lets nothing out -/
def eCall0 (F : FF) : EF := fun Γ M => match runP F [] with
  | some (.ok d _) => some (.ok (.d d) M)
  | _ => none
theorem de_call0 (C : Ctx P w K mg base X N sc Wx k) (Fo : FnG P w K mg base (L2.CX P w) kk fa fd [] (spF K 0 F)) (hk : kk ≤ k) (hm : mg x = some (.ref fa)) (kp : PySem.W.keepIn K (.ref fa) = true) (hb : Binds K fd [] [])
    (hg : sc.names.lookup x = some .globalImplicit := by rfl) (hdb : (x == ("__debug__" : Str)) = false := by decide) : DE X Wx Z (.Call (.Name x p) [] [] pos) (eCall0 F) := by
  have hg := C.g hg
  have room := C.room
  have gd := C.gd
  obtain ⟨rfl, rfl, rfl, rfl, rfl, _⟩ := C
  refine ⟨_, pe_frz (pe_callG0 (E := fun _ => E0) Fo (room.mono hk) gd hg hm kp hb (fun σ pins H s e s' I => passL pins σ H s e s' I) hdb), fun ι M Γ σ G H out Q s e q => ?_⟩
  show spF X.K 0 F [] H (frzQ Q) E0
  unfold eCall0 at e
  cases z : runP F [] with
  | none => rw [z] at e; cases e
  | some o =>
    rw [z] at e
    cases o with
    | exc x M' => cases e
    | ok d M' =>
      cases e
      exact sp_callP (Wx := fun _ _ _ _ => False) (out := .ok (.d d) M) s .nil rfl (by rw [z]; rfl) fun ι' G' H' v s' x' r' => q ι' G' H' v s' x' r'
/-- a def of the script keeps what its derivation says -/
theorem fnok (hpP : PWd.P = P) (hpw : PWd.w = w) {qual : Str} {params : Arguments} {bd : List Stmt} {scope : Scope} {u : SF} (Fd : FunD K x qual params bd scope [] [] fa fd) (S : FnScope N ps scope) (hn : ps.length = n)
    (b : ∀ (X : Cx) (Wx : WX) (Z : Addr → Prop), Ctx P w K mg base X N scope Wx k → Fx X scope → Px X → DSs X Wx Z bd u) : FnG P w K mg base (L2.CX P w) (k + 1) fa fd ps (spF K n (runB N u)) :=
  FnOk_of (x := x) (F := ⟨(x, none), x, x, params, bd, scope, [], []⟩) hpP hpw (fun h1 h2 => fng_of Fd S h1 h2) S hn b
end
end DL

set_option Elab.async false
set_option linter.all false
set_option maxRecDepth 100000
set_option autoImplicit false
set_option maxHeartbeats 1000000
namespace DL
open PySem PySem.Spec PyProof.Rows L2
variable [PWd]
section
variable {K Kc : PySem.W.Frag} {G G' G'' H H' H'' : Hp} {Z : Addr → Prop} {ι ι' ι'' : List Addr} {M M' : Store} {Γ Γ' : Env} {σ σ' : L2.St}
variable {P : Program} {w : World} {mg : Str → Option Value} {base : Heap} {X : Cx} {N : List Str} {sc : Scope} {Wx : WX} {k : Nat} {o e e2 a : Expr} {f g : EF} {af : AF} {apos cpos pos p1 p2 p3 : Pos}
/-- of two readings, the first that tells something -/
def eAlt (f g : EF) : EF := fun Γ M => match f Γ M with
  | none => g Γ M
  | o => o
theorem de_alt (hf : DE X Wx Z e f) (hg : DE X Wx Z e g) : DE X Wx Z e (eAlt f g) := by
  obtain ⟨tf, pf, of⟩ := hf
  obtain ⟨tg, pg, og⟩ := hg
  refine ⟨fun σ H Q => tf σ H Q ∨ tg σ H Q, ⟨fun pins s σ H Q I h => h.elim (pf.run pins s σ H Q I) (pg.run pins s σ H Q I)⟩, fun ι M Γ σ G H out Q s e q => ?_⟩
  unfold eAlt at e
  cases z : f Γ M with
  | none => rw [z] at e; exact .inr (og ι M Γ σ G H out Q s e q)
  | some x => rw [z] at e; exact .inl (of ι M Γ σ G H out Q s (by rw [z]; exact e) q)
theorem de_revA {kk : Nat} (ha : DE X Wx Z a f) : DE X Wx Z (.Subscript a (.Slice none none (some (.UnaryOp .USub (.Constant (.int 1) kk p1) p2)) p3) pos) (eAlt (eUn revT f) (eUn revD f)) := de_alt (de_revT ha) (de_revL ha)

theorem de_append (ho : DE X Wx Z o f) (ha : DA X Wx Z [e] af) (hbase : attributeBase o "append" X.env (eval o X.env) = eval o X.env := by rfl)
    (hfew : ((backTo cpos (starEach [e] X.env)).all (fun x => !x.1) && (backToKw cpos (keywordEach [] X.env)).all (fun x => x.1.isSome)
      && decide (([e] : List Expr).length + ([] : List Keyword).length + (if ([] : List Keyword).isEmpty then 0 else 1) < 30)) = true := by rfl)
    (hline : (apos.endLine == cpos.line) = true := by rfl) (hst : starEach [e] X.env = (false, eval e X.env) :: starEach [] X.env := by rfl) (hplain : (backTo cpos (starEach [] X.env)).any (·.1) = false := by rfl) :
    DE X Wx Z (.Call (.Attribute o "append" apos) [e] [] cpos) (eMC appendC f af) := de_mc c_append ho ha PySem.F.slot_list_append PySem.F.type_list_append mt_append hbase hfew hline hst hplain

theorem de_extend (ho : DE X Wx Z o f) (ha : DA X Wx Z [e] af) (hbase : attributeBase o "extend" X.env (eval o X.env) = eval o X.env := by rfl)
    (hfew : ((backTo cpos (starEach [e] X.env)).all (fun x => !x.1) && (backToKw cpos (keywordEach [] X.env)).all (fun x => x.1.isSome)
      && decide (([e] : List Expr).length + ([] : List Keyword).length + (if ([] : List Keyword).isEmpty then 0 else 1) < 30)) = true := by rfl)
    (hline : (apos.endLine == cpos.line) = true := by rfl) (hst : starEach [e] X.env = (false, eval e X.env) :: starEach [] X.env := by rfl) (hplain : (backTo cpos (starEach [] X.env)).any (·.1) = false := by rfl) :
    DE X Wx Z (.Call (.Attribute o "extend" apos) [e] [] cpos) (eMC extendC f af) := de_mc c_extend ho ha PySem.F.slot_list_extend PySem.F.type_list_extend mt_extend hbase hfew hline hst hplain

theorem de_popAt (ho : DE X Wx Z o f) (ha : DA X Wx Z [e] af) (hbase : attributeBase o "pop" X.env (eval o X.env) = eval o X.env := by rfl)
    (hfew : ((backTo cpos (starEach [e] X.env)).all (fun x => !x.1) && (backToKw cpos (keywordEach [] X.env)).all (fun x => x.1.isSome)
      && decide (([e] : List Expr).length + ([] : List Keyword).length + (if ([] : List Keyword).isEmpty then 0 else 1) < 30)) = true := by rfl)
    (hline : (apos.endLine == cpos.line) = true := by rfl) (hst : starEach [e] X.env = (false, eval e X.env) :: starEach [] X.env := by rfl) (hplain : (backTo cpos (starEach [] X.env)).any (·.1) = false := by rfl) :
    DE X Wx Z (.Call (.Attribute o "pop" apos) [e] [] cpos) (eMC popAtC f af) := de_mc c_popAt ho ha PySem.F.slot_list_pop PySem.F.type_list_pop mt_popAt hbase hfew hline hst hplain

theorem de_removeS (ho : DE X Wx Z o f) (ha : DA X Wx Z [e] af) (hbase : attributeBase o "remove" X.env (eval o X.env) = eval o X.env := by rfl)
    (hfew : ((backTo cpos (starEach [e] X.env)).all (fun x => !x.1) && (backToKw cpos (keywordEach [] X.env)).all (fun x => x.1.isSome)
      && decide (([e] : List Expr).length + ([] : List Keyword).length + (if ([] : List Keyword).isEmpty then 0 else 1) < 30)) = true := by rfl)
    (hline : (apos.endLine == cpos.line) = true := by rfl) (hst : starEach [e] X.env = (false, eval e X.env) :: starEach [] X.env := by rfl) (hplain : (backTo cpos (starEach [] X.env)).any (·.1) = false := by rfl) :
    DE X Wx Z (.Call (.Attribute o "remove" apos) [e] [] cpos) (eMC removeSC f af) := de_mc c_removeS ho ha PySem.F.slot_list_remove PySem.F.type_list_remove mt_removeS hbase hfew hline hst hplain

theorem de_pop (ho : DE X Wx Z o f) (hbase : attributeBase o "pop" X.env (eval o X.env) = eval o X.env := by rfl) (hline : (apos.endLine == cpos.line) = true := by rfl) :
    DE X Wx Z (.Call (.Attribute o "pop" apos) [] [] cpos) (eMC0 popC f) := de_mc0 c_pop ho PySem.F.slot_list_pop PySem.F.type_list_pop mt_pop hbase hline

theorem de_reverse (ho : DE X Wx Z o f) (hbase : attributeBase o "reverse" X.env (eval o X.env) = eval o X.env := by rfl) (hline : (apos.endLine == cpos.line) = true := by rfl) :
    DE X Wx Z (.Call (.Attribute o "reverse" apos) [] [] cpos) (eMC0 reverseC f) := de_mc0 c_reverse ho PySem.F.slot_list_reverse PySem.F.type_list_reverse mt_reverse hbase hline

end
end DL

set_option Elab.async false
set_option linter.all false
set_option maxRecDepth 100000
set_option autoImplicit false
set_option maxHeartbeats 1000000
namespace DL
open PySem PySem.Spec PyProof.Rows L2
variable [PWd]
section
variable {K Kc : PySem.W.Frag} {G G' G'' H H' H'' : Hp} {Z : Addr → Prop} {ι ι' ι'' : List Addr} {M M' : Store} {Γ Γ' : Env} {σ σ' : L2.St}
variable {P : Program} {w : World} {mg : Str → Option Value} {base : Heap} {X : Cx} {N : List Str} {sc : Scope} {Wx : WX} {k : Nat} {a b c : Expr} {af : AF} {pos px py pz pt pt2 : Pos} {kt k2 : Nat} {x y z : Str} {bd : List Stmt}
/-! ### a, b = .. and which order the stores take -/
theorem Ctx.kindOf (C : Ctx P w K mg base X N sc Wx k) (x : Str) : X.env.kindOf x = sc.names.lookup x := by
  show X.env.scope.names.lookup x = _
  rw [C.hs]
theorem Ctx.blockKind (C : Ctx P w K mg base X N sc Wx k) (hk : sc.kind = .function) : X.env.blockKind = .function := by
  unfold Env.blockKind; rw [C.hs, hk]; rfl
def noStar (es : List Expr) : Bool := !(es.any fun | .Starred .. => true | _ => false)
theorem sw2 (C : Ctx P w K mg base X N sc Wx k) (hk : sc.kind = .function) (hx : sc.names.lookup x = some .local) (hy : sc.names.lookup y = some .local) (hl : (py.line == px.line) = true) (hne : ([x, y].eraseDups.length == 2) = true)
    (hst : noStar [a, b] = true) (hf : [a, b].all (foldedForSure 8) = false) (hc : [a, b].all (constantsAlone 8) = false) :
    swappedStores [.Tuple [.Name x px, .Name y py] kt pt] (.Tuple [a, b] k2 pt2) X.env = pure (some [x, y]) := by
  have h1 : ([a, b].any fun | .Starred .. => true | _ => false) = false := by unfold noStar at hst; simpa using hst
  have h2 : ([x, y].eraseDups.length != 2) = false := by simp only [bne, hne, Bool.not_true]
  unfold swappedStores
  simp only [C.kindOf, hx, hy, C.blockKind hk, h1, hf, hc, List.filterMap, hl, List.head?, Option.map, Expr.pos, beq_self_eq_true, Bool.and_self, Option.getD]
  simp only [List.any_cons, List.any_nil, List.all_cons, List.all_nil, Bool.or_eq_false_iff] at h1 hf hc ⊢
  simp [hf, hc, h2]
  intro h
  rcases h with h | h
  · exact absurd (h1.1.symm.trans h) (by decide)
  · exact absurd (h1.2.1.symm.trans h) (by decide)
theorem sw3 (C : Ctx P w K mg base X N sc Wx k) (hk : sc.kind = .function) (hx : sc.names.lookup x = some .local) (hy : sc.names.lookup y = some .local) (hz : sc.names.lookup z = some .local) (hl : (py.line == px.line) = true) (hl2 : (pz.line == px.line) = true) (hne : ([x, y, z].eraseDups.length == 3) = true)
    (hst : noStar [a, b, c] = true) (hf : [a, b, c].all (foldedForSure 8) = false) (hc : [a, b, c].all (constantsAlone 8) = false) :
    swappedStores [.Tuple [.Name x px, .Name y py, .Name z pz] kt pt] (.Tuple [a, b, c] k2 pt2) X.env = pure (some [x, y, z]) := by
  have h1 : ([a, b, c].any fun | .Starred .. => true | _ => false) = false := by unfold noStar at hst; simpa using hst
  have h2 : ([x, y, z].eraseDups.length != 3) = false := by simp only [bne, hne, Bool.not_true]
  unfold swappedStores
  simp only [C.kindOf, hx, hy, hz, C.blockKind hk, h1, hf, hc, List.filterMap, hl, hl2, List.head?, Option.map, Expr.pos, beq_self_eq_true, Bool.and_self, Option.getD]
  simp only [List.any_cons, List.any_nil, List.all_cons, List.all_nil, Bool.or_eq_false_iff] at h1 hf hc ⊢
  simp [hf, hc, h2]
  intro h
  rcases h with h | h | h
  · exact absurd (h1.1.symm.trans h) (by decide)
  · exact absurd (h1.2.1.symm.trans h) (by decide)
  · exact absurd (h1.2.2.1.symm.trans h) (by decide)
/-- a name that a block reads is stored in order -/
theorem sw2n (C : Ctx P w K mg base X N sc Wx k) (h : sc.names.lookup x = some .cell ∨ sc.names.lookup y = some .cell) :
    swappedStores [.Tuple [.Name x px, .Name y py] kt pt] (.Tuple [a, b] k2 pt2) X.env = pure none := by
  unfold swappedStores
  simp only [C.kindOf]
  split
  · rfl
  · split
    · rfl
    · rw [if_pos]
      rw [Bool.or_eq_true]
      refine .inl ?_
      rcases h with h | h
      · have e : (sc.names.lookup x == some NameKind.local) = false := by rw [h]; rfl
        simp only [List.filterMap, e, Bool.false_and]
        by_cases h3 : (sc.names.lookup y == some NameKind.local && py.line == (Option.map (fun (x : Expr) => x.pos.line) [Expr.Name x px, Expr.Name y py].head?).getD 0) = true
        · rw [h3]; rfl
        · rw [Bool.not_eq_true] at h3; rw [h3]; rfl
      · have e : (sc.names.lookup y == some NameKind.local) = false := by rw [h]; rfl
        simp only [List.filterMap, e, Bool.false_and]
        by_cases h3 : (sc.names.lookup x == some NameKind.local && px.line == (Option.map (fun (x : Expr) => x.pos.line) [Expr.Name x px, Expr.Name y py].head?).getD 0) = true
        · rw [h3]; rfl
        · rw [Bool.not_eq_true] at h3; rw [h3]; rfl
/-- a name's store, whatever is stored -/
structure DV (X : Cx) (tg : Expr) (i : Nat) : Prop where
  ex : PG X tg (gName i)
theorem dv_name (C : Ctx P w K mg base X N sc Wx k) {so : Scope} (F : Fx X so) (i : Nat) (hi : N[i]? = some x := by rfl) (hx : LocO sc so x := by first | exact Or.inl rfl | exact Or.inr ⟨rfl, rfl⟩) : DV X (.Name x px) i :=
  ⟨pg_name (i := i) (by rw [C.hN]; exact C.nd) (by rw [C.hN]; exact hi) (C.loc hx.loc) (C.storeOk F hx)⟩
def sSets (is : List Nat) (f : AF) : SF := fun Γ M => bndS Γ (f Γ M) fun ws M1 => if ws.length = is.length then some (.nx ((is.zip ws).foldl (fun Γ p => Γ.set p.1 (some p.2)) Γ) M1) else none
theorem ds_tup2 (C : Ctx P w K mg base X N sc Wx k) {i j : Nat} (ha : DA X Wx Z [a, b] af) (h1 : DV X (.Name x px) i) (h2 : DV X (.Name y py) j)
    (hw : swappedStores [.Tuple [.Name x px, .Name y py] kt pt] (.Tuple [a, b] k2 pt2) X.env = pure none)
    (hs : swapsWithSole [.Tuple [.Name x px, .Name y py] kt pt] (.Tuple [a, b] k2 pt2) pos.line X.env = pure false := by rfl) :
    DS X Wx Z (.Assign [.Tuple [.Name x px, .Name y py] kt pt] (.Tuple [a, b] k2 pt2) pos) (sSets [i, j] af) := by
  obtain ⟨⟨ta, pa, oa⟩, len⟩ := ha
  refine ⟨_, ps_asg (pe_tup pa) (pg_tup (n := 2) C.calm (pgs_cons h1.ex (pgs_cons h2.ex pgs_nil)) rfl rfl) hs hw rfl, fun ι M Γ σ G H out D s e q => ?_⟩
  rcases bndS_some e with ⟨ws, M1, e1, e2⟩ | ⟨x, M1, e1, rfl⟩
  · split at e2
    · rename_i hl
      cases e2
      refine oa ι M Γ σ G H _ _ s e1 fun ι1 G1 H1 vs s1 x1 r1 => ?_
      have hv : vs.length = 2 := by rw [Paired.length r1, hl]; rfl
      refine ⟨by rw [hv]; decide, fun p hp => ?_⟩
      match vs, ws, r1, hl with
      | [v1, v2], [w1, w2], .cons r1 (.cons r2 .nil), _ =>
        have gw : Grow G1 H1 (upd G1 p (.tup [v1, v2])) (upd H1 p (.tup [v1, v2])) := Grow.one s1.cr.sub hp _
        refine ⟨p, [v1, v2], rfl, SqT.of upd_same, rfl, v1, [v2], rfl, v2, [], rfl, rfl, ?_⟩
        have x2 := s1.cr.growE gw
        exact q ι1 _ _ _ (((s1.grow gw).set i (x2.rw r1)).set j (x2.rw r2)) (x1.trans x2)
    · cases e2
  · exact oa ι M Γ σ G H _ _ s e1 (SPost.x q x M1 rfl)
theorem ds_tup3 (C : Ctx P w K mg base X N sc Wx k) {i j l : Nat} (ha : DA X Wx Z [a, b, c] af) (h1 : DV X (.Name x px) i) (h2 : DV X (.Name y py) j) (h3 : DV X (.Name z pz) l)
    (hw : swappedStores [.Tuple [.Name x px, .Name y py, .Name z pz] kt pt] (.Tuple [a, b, c] k2 pt2) X.env = pure none)
    (hs : swapsWithSole [.Tuple [.Name x px, .Name y py, .Name z pz] kt pt] (.Tuple [a, b, c] k2 pt2) pos.line X.env = pure false := by rfl) :
    DS X Wx Z (.Assign [.Tuple [.Name x px, .Name y py, .Name z pz] kt pt] (.Tuple [a, b, c] k2 pt2) pos) (sSets [i, j, l] af) := by
  obtain ⟨⟨ta, pa, oa⟩, len⟩ := ha
  refine ⟨_, ps_asg (pe_tup pa) (pg_tup (n := 3) C.calm (pgs_cons h1.ex (pgs_cons h2.ex (pgs_cons h3.ex pgs_nil))) rfl rfl) hs hw rfl, fun ι M Γ σ G H out D s e q => ?_⟩
  rcases bndS_some e with ⟨ws, M1, e1, e2⟩ | ⟨x, M1, e1, rfl⟩
  · split at e2
    · rename_i hl
      cases e2
      refine oa ι M Γ σ G H _ _ s e1 fun ι1 G1 H1 vs s1 x1 r1 => ?_
      have hv : vs.length = 3 := by rw [Paired.length r1, hl]; rfl
      refine ⟨by rw [hv]; decide, fun p hp => ?_⟩
      match vs, ws, r1, hl with
      | [v1, v2, v3], [w1, w2, w3], .cons r1 (.cons r2 (.cons r3 .nil)), _ =>
        have gw : Grow G1 H1 (upd G1 p (.tup [v1, v2, v3])) (upd H1 p (.tup [v1, v2, v3])) := Grow.one s1.cr.sub hp _
        refine ⟨p, [v1, v2, v3], rfl, SqT.of upd_same, rfl, v1, [v2, v3], rfl, v2, [v3], rfl, v3, [], rfl, rfl, ?_⟩
        have x2 := s1.cr.growE gw
        exact q ι1 _ _ _ ((((s1.grow gw).set i (x2.rw r1)).set j (x2.rw r2)).set l (x2.rw r3)) (x1.trans x2)
    · cases e2
  · exact oa ι M Γ σ G H _ _ s e1 (SPost.x q x M1 rfl)
/-- .. of a comprehension: such a name is stored behind it -/
theorem sw_cell {e : Expr} {l : Nat} {py : Pos} (C : Ctx P w K mg base X N sc Wx k) (hy : sc.names.lookup y = some .cell) : swapsWith e (some (.Name y py)) l X.env = pure false := by
  have ky : (X.env.kindOf y == some NameKind.local) = false := by rw [C.kindOf, hy]; rfl
  unfold swapsWith
  cases e <;> first | rfl | (simp only [ky, Bool.and_false, Bool.false_and])
/-- a body that is never run -/
theorem dss_never {bd : List Stmt} : DSs X Wx Z bd sNever := by
  refine ⟨fun _ _ _ => False, ⟨fun pins s σ H D I h => h.elim⟩, fun ι M Γ σ G H out D s e q => by cases e⟩
end
end DL

set_option Elab.async false
set_option linter.all false
set_option maxRecDepth 100000
set_option autoImplicit false
set_option maxHeartbeats 1000000
namespace DL
open PySem PySem.Spec PyProof.Rows L2
theorem ownX_of {K : PySem.W.Frag} {h : Heap} {mg : Str → Option Value} {x : Str} (X : K.In h) (G : h.Ns mainGlobals mg) (c : (He.Fa.glo x).ok K = true) (e : (He.Fa.exc x).ok K = true) : OwnX K mg x :=
  ⟨He.glo_ok X G c, (He.exc_ok e).1, (He.exc_ok e).2.1, (He.exc_ok e).2.2.1, (He.exc_ok e).2.2.2⟩
theorem rep_ints [PWd] {K : PySem.W.Frag} {G : Hp} : ∀ ns : List Int, RepL K G (ns.map V.int) (ns.map D.int)
  | [] => .nil
  | n :: r => .cons (.int n) (rep_ints r)
/-- the law's def at the script, from what it promises -/
theorem go_law {P : Program} {w : World} {K : PySem.W.Frag} {mg mb : Str → Option Value} {CX : CXT} {k : Nat} {fa a : Addr} {fd : FuncData} {x : Str} {sp : Sp} {t : Shared} {vs : List Value} {ns : List Int}
    (inK : K.In t.heap) (gl : t.heap.Ns mainGlobals mg) (bl : t.heap.Ns builtinsNs mb) (bb : ∀ x : Str, x ≠ "__name__" → mb x = bootBuiltins x) (nl : t.heap.NoLimit) (ge : t.gens = #[])
    (at_ : t.heap.get? a = some { cls := .type "list", data := .seq vs.toArray }) (iv : IntsAre vs ns) (sz : ns.length ≤ sizeLine) (rm : Room k callerA)
    (F : ∀ base : Heap, K.In base → base.Ns mainGlobals mg → FnG P w K mg base CX k fa fd [x] sp) (bi : ∀ (s : Shared) (u : Value), BindsTo s fd ⟨[u], []⟩ [(x, u)])
    (wish : ∀ H : Hp, L2.Only H → SqL K H a (ns.map V.int) → sp [.ref a] H (fun v _ => v = .bl true) fun _ _ _ => False)
    (none_ : ∀ H e s', CX [] H t (fun _ _ _ => False) e s' → False) :
    codeAny (model P w) callerA (.call (.ref fa) ⟨[.ref a], []⟩) (fun r s' => r = .ok (.ret (.bool true)) ∧ OldK t.heap s'.heap ∧ s'.os = t.os ∧ AllBare s'.gens) t := by
  have rv := vals_ints iv
  have ln := iv.length
  have main : ∀ H : Hp, L2.Only H → SqL K H a (ns.map V.int) → HOk P w H t.heap → (∀ b, H b ≠ none → b = a) → (H a ≠ none → K.lookup a = none) →
      codeAny (model P w) callerA (.call (.ref fa) ⟨[.ref a], []⟩) (fun r s' => r = .ok (.ret (.bool true)) ∧ OldK t.heap s'.heap ∧ s'.os = t.os ∧ AllBare s'.gens) t := by
    intro H oH sH kH hA hK
    have dicts : ∀ {b : Addr} {o : Obj} {es : Array DictEntry} {ep : Nat}, t.heap.get? b = some o → o.data = .dict es ep → H b = none := by
      intro b o es ep z d
      rcases Option.eq_none_or_eq_some (H b) with q | ⟨u, q⟩
      · exact q
      · obtain rfl : b = a := hA b (by rw [q]; exact Option.some_ne_none u)
        have := at_.symm.trans z
        cases this
        cases (show Data.seq vs.toArray _ = Data.dict es ep from d)
    have ns_ : ∀ {b : Addr} {m : Str → Option Value}, t.heap.Ns b m → (hidT t.heap H).Ns b m := fun {b m} z => by
      obtain ⟨o, es, ep, z1, z2, z3⟩ := z
      exact ⟨o, es, ep, hidT_get z1 (dicts z1 z2), z2, z3⟩
    have inB : K.In (hidT t.heap H) := fun b o z => hidT_get (inK b o z) (by
      rcases Option.eq_none_or_eq_some (H b) with q | ⟨u, q⟩
      · exact q
      · obtain rfl : b = a := hA b (by rw [q]; exact Option.some_ne_none u)
        rw [hK (by rw [q]; exact Option.some_ne_none u)] at z
        cases z)
    obtain ⟨mc, l1, l2⟩ := nl
    have md : Mod K mg (hidT t.heap H) := ⟨inB, ns_ gl, ⟨mb, ns_ bl, bb⟩, mc, ns_ l1, l2⟩
    have e0 : Env0 P w K mg (hidT t.heap H) callerA [] t H :=
      ⟨rfl, md, fun b o z => of_hidT z, Nat.le_of_eq (hidT_size _ _), trivial, fun b z => (by cases z), kH, .of_eq ge⟩
    have run := (F _ inB (ns_ gl)).goes callerA [] t H ⟨[.ref a], []⟩ [.ref a] [.ref a] _ _ rm gd_caller e0 (bi t (.ref a)) (.cons rfl .nil) (wish H oH sH)
    refine codeAny_mono run fun r s' z => ?_
    match r, z with
    | .error e, z => exact (none_ H e s' z).elim
    | .ok (.ret u), ⟨v, H', os, bare, un, kH', rv', q⟩ =>
      cases (show v = .bl true from q)
      cases (show u = Value.bool true from rv')
      refine ⟨rfl, OldK.of_keep fun b o z => ?_, os, bare⟩
      rcases Option.eq_none_or_eq_some (H b) with q | ⟨u, q⟩
      · exact un.keep b o z q (fun z => by cases z) (fun z => by cases z)
      · rcases oH b with z' | ⟨ob, xs, z'⟩
        · rw [q] at z'
          cases z'
        · have c1 := (kH b _ z').1
          have c2 := (kH' b _ (un.frzs b ob _ z')).1
          rw [z] at c1
          cases c1
          exact c2
  rcases Option.eq_none_or_eq_some (K.lookup a) with hk | ⟨o, hk⟩
  · have at' : ∀ b, (if b = a then some (HO.frz { cls := .type "list", data := .seq vs.toArray } (.lst (ns.map V.int))) else none) ≠ (none : Option HO) → b = a := fun b z => by
      by_cases h : b = a
      · exact h
      · exact (z (if_neg h)).elim
    refine main (fun b => if b = a then some (.frz { cls := .type "list", data := .seq vs.toArray } (.lst (ns.map V.int))) else none) (fun b => ?_)
      (.inl (.inr ⟨{ cls := .type "list", data := .seq vs.toArray }, if_pos rfl⟩)) (fun b u z => ?_) at' fun _ => hk
    · by_cases h : b = a
      · exact .inr ⟨_, _, if_pos h⟩
      · exact .inl (if_neg h)
    · obtain rfl : b = a := at' b (fun n => nomatch (show some u = none from z.symm.trans n))
      have z' := (if_pos rfl).symm.trans z
      cases z'
      exact ⟨at_, by rw [List.length_map]; exact sz, vs, _, rv, at_⟩
  · have z := inK a o hk
    rw [at_] at z
    cases z
    exact main (fun _ => none) (fun _ => .inl rfl) (.inr ⟨_, vs.toArray, _, hk, rfl, rfl, rfl, by rw [List.size_toArray, ln]; exact sz, by simpa using rv⟩)
      (fun b u z => by cases (show (none : Option HO) = some u from z)) (fun b z => (z rfl).elim) fun z => (z rfl).elim
/-- the end of a law: what its def makes of the script -/
theorem law_end {l : PySem.W.OpenLaw} {k : Nat} {q : Program} {loose : List Str} {XP : (Str → Option Value) → Heap → Prop} {YP : World → Heap → Prop} {d : DefRec} {x : Str} {F : FF}
    (hn : l.most = some 63) (hdf : d.params.defaults = []) (hr : Room k callerA)
    (f : ∀ (w : World) (mg : Str → Option Value) (fa : Addr) (h : Heap), YP w h → h.Ns mainGlobals mg → mg d.name = some (.ref fa) →
      ∃ (K : PySem.W.Frag) (fd : FuncData), K.In h ∧ (∀ (s : Shared) (u : Value), BindsTo s fd ⟨[u], []⟩ [(x, u)]) ∧
        ∀ base : Heap, K.In base → base.Ns mainGlobals mg → FnG l.prog w K mg base (L2.CX l.prog w) k fa fd [x] (@spF ⟨l.prog, w⟩ K 1 F))
    (main : ∀ ns : List Int, ns.length ≤ 63 → ∃ M', F [.d (.rol (ns.map D.int))] [] = some (.ok (.d (.bl true)) M')) :
    PySem.W.WalkO q loose XP YP l.row.toRowW d [] (fun f vs => PySem.call f vs) :=
  Att.attach_call hn hdf fun w s₀ s₁ mg mb fa o pm cd doc a vs ns G Y _ _ _ hmg hobj hints hlen hg => by
    obtain ⟨K, fd, KX, hb, hF⟩ := f w mg fa _ Y G.T.g hmg
    letI : PWd := ⟨l.prog, w⟩
    have hz : (63 : Nat) ≤ sizeLine := by decide
    exact go_law KX G.T.g G.T.b G.T.builtins G.T.nolimit hg hobj hints (Nat.le_trans hlen hz) hr hF hb (fun H _ hS => by
      obtain ⟨M', hM⟩ := main ns hlen
      have cr : CRel K (fun _ => False) [] [] H H := {
        ln := rfl
        nd := .nil
        dj := fun a h => nomatch h
        sub := fun _ _ h => h
        zf := fun _ h => h.elim
        zh := fun _ h => h.elim
        ch := fun a h => nomatch h
        cf := fun i a h _ => by cases i <;> cases h
        ct := fun i a c h _ => by cases i <;> cases h
        df := fun i a h _ => by cases i <;> cases h }
      refine ⟨fun _ => False, [], [], H, [.d (.rol (ns.map D.int))], _, cr, .cons (.d (.rol hS (rep_ints ns))) .nil, rfl, hM, ?_⟩
      intro ι' G' H' v _ _ r
      cases r with
      | d r => cases r; rfl) fun H e s' z => by
        obtain ⟨_, _, _, _, _, _, _, _, _, _, _, _, z⟩ := z
        exact z
end DL

set_option Elab.async false
set_option linter.all false
set_option maxRecDepth 100000
set_option autoImplicit false
set_option maxHeartbeats 1000000
/-! repr and str of data -/
namespace DL
open PySem PySem.Spec PyProof.Rows L2
def keyP : Key → PyData
  | .inl i => .int i
  | .inr x => .str x
/-- what is known of sys.modules: it is a dict -/
def smK (K : PySem.W.Frag) : Bool := match K.lookup sysModules with
  | some ⟨_, _, .dict _ _, _⟩ => true
  | _ => false
theorem smK_ne {K : PySem.W.Frag} {h : Heap} (sm : smK K = true) (KX : K.In h) {a : Addr} {o : Obj} {its : Array Value} {n : Nat} (e : h.get? a = some o) (d : o.data = .seq its n) : a ≠ sysModules := fun z => by
  subst z
  unfold smK at sm
  split at sm
  · rename_i l
    have q := (KX _ _ l).symm.trans e
    cases q
    cases d
  · cases sm
/-- what may be shown here -/
def okShow (p : PyData) : Bool := p.showable && decide (p.shown.length ≤ sizeLine) && decide (p.depth ≤ 60)
mutual
def pyOf : D → Option PyData
  | .non => some .none
  | .bl b => some (.bool b)
  | .int i => some (.int i)
  | .str x => some (.str x)
  | .tup xs => (pyOfs xs).map .tuple
  | .lst xs => (pyOfs xs).map .list
  | .rol xs => (pyOfs xs).map .list
  | .dic kvs => (pyOfK kvs).map .dict
  | .ins _ _ => none
  | .cls _ => none
  | .ty _ => none
  | .set _ => none
  | .exv _ _ => none
def pyOfs : List D → Option (List PyData)
  | [] => some []
  | x :: xs => (pyOf x).bind fun p => (pyOfs xs).map (p :: ·)
def pyOfK : List (Key × D) → Option (List (PyData × PyData))
  | [] => some []
  | (k, x) :: r => (pyOf x).bind fun p => (pyOfK r).map ((keyP k, p) :: ·)
end
def reprD : List D → Option D
  | [x] => (pyOf x).bind fun p => if okShow p then some (.str p.shown) else none
  | _ => none
/-- str(x): a text is itself -/
def strAllD : List D → Option D
  | [.str x] => some (.str x)
  | [x] => (pyOf x).bind fun p => if okShow p then some (.str p.shown) else none
  | _ => none
mutual
inductive PyV (K : PySem.W.Frag) (H : Hp) : V → PyData → Prop
  | non : PyV K H .non .none
  | bl (b : Bool) : PyV K H (.bl b) (.bool b)
  | int (i : Int) : PyV K H (.int i) (.int i)
  | str (x : Str) : PyV K H (.str x) (.str x)
  | lst {a : Addr} {vs : List V} {ps : List PyData} : SqL K H a vs → PyVs K H vs ps → PyV K H (.ref a) (.list ps)
  | tup {a : Addr} {vs : List V} {ps : List PyData} : SqT K H a vs → PyVs K H vs ps → PyV K H (.ref a) (.tuple ps)
  | dic {a : Addr} {vs : List (Key × V)} {ps : List (PyData × PyData)} : Rd H a (.dK vs) → PyVk K H vs ps → PyV K H (.ref a) (.dict ps)
inductive PyVs (K : PySem.W.Frag) (H : Hp) : List V → List PyData → Prop
  | nil : PyVs K H [] []
  | cons {v : V} {vs : List V} {p : PyData} {ps : List PyData} : PyV K H v p → PyVs K H vs ps → PyVs K H (v :: vs) (p :: ps)
inductive PyVk (K : PySem.W.Frag) (H : Hp) : List (Key × V) → List (PyData × PyData) → Prop
  | nil : PyVk K H [] []
  | cons {k : Key} {v : V} {vs : List (Key × V)} {p : PyData} {ps : List (PyData × PyData)} : PyV K H v p → PyVk K H vs ps → PyVk K H ((k, v) :: vs) ((keyP k, p) :: ps)
end
section
variable {X : Cx} {pins : List (Addr × Obj)} {σ : L2.St} {H : Hp} {s : Shared} {P : Program} {w : World} {K : PySem.W.Frag} {h : Heap}
theorem entry_key {k : Key} {v : Value} (e : (mixKind P w).is k v = true) : Reads h v (keyP k) [] := by
  rcases keyIs_shape e with ⟨i, t, rfl, rfl⟩ | ⟨x, t, rfl, rfl⟩
  · exact .int i t
  · exact .str x t
mutual
theorem PyV.reads (ok : HOk P w H h) (KX : K.In h) (sm : smK K = true) : ∀ {v : V} {p : PyData} {u : Value}, PyV K H v p → RelV v u → ∃ as, Reads h u p as ∧ ∀ a ∈ as, a ≠ sysModules
  | _, _, _, .non, r => by
    cases (show _ = Value.none from r)
    exact ⟨_, .none, fun _ z => nomatch z⟩
  | _, _, _, .bl b, r => by
    cases (show _ = Value.bool b from r)
    exact ⟨_, .bool b, fun _ z => nomatch z⟩
  | _, _, _, .int i, r => by
    obtain ⟨t, rfl⟩ := r
    exact ⟨_, .int i t, fun _ z => nomatch z⟩
  | _, _, _, .str x, r => by
    obtain ⟨t, rfl⟩ := r
    exact ⟨_, .str x t, fun _ z => nomatch z⟩
  | _, _, _, .lst (a := a) e q, r => by
    cases (show _ = Value.ref a from r)
    obtain ⟨its, o, n, rv, e1, e2, e3⟩ := sqL_at ok KX e
    obtain ⟨as, z, g⟩ := PyVs.reads ok KX sm q rv
    exact ⟨_, .list e1 e2 e3 (by simpa using z), fun b hb => (List.mem_cons.mp hb).elim (fun e => by rw [e]; exact smK_ne sm KX e1 e3) (g b)⟩
  | _, _, _, .tup (a := a) e q, r => by
    cases (show _ = Value.ref a from r)
    obtain ⟨its, o, n, rv, e1, e2, e3⟩ := sqT_at ok KX e
    obtain ⟨as, z, g⟩ := PyVs.reads ok KX sm q rv
    exact ⟨_, .tuple e1 e2 e3 (by simpa using z), g⟩
  | _, _, _, .dic (a := a) e q, r => by
    cases (show _ = Value.ref a from r)
    obtain ⟨_, ns, vs, kv, o, es, ep, e1, e2, e3, _, e5, _⟩ := dk_rd ok e
    obtain ⟨as, bs, z1, z2, g⟩ := PyVk.reads ok KX sm q kv e5
    refine ⟨_, .dict e1 e2.1 e3 z1 z2, fun b hb => ?_⟩
    rcases List.mem_append.mp hb with hb | hb
    · rcases List.mem_cons.mp hb with rfl | hb
      · exact fun e => by rw [e] at ns; simp at ns
      · exact g b (.inl hb)
    · exact g b (.inr hb)
theorem PyVs.reads (ok : HOk P w H h) (KX : K.In h) (sm : smK K = true) : ∀ {vs : List V} {ps : List PyData} {us : List Value}, PyVs K H vs ps → Vals vs us → ∃ as, ReadsAll h us ps as ∧ ∀ a ∈ as, a ≠ sysModules
  | _, _, _, .nil, .nil => ⟨_, .nil, fun _ z => nomatch z⟩
  | _, _, _, .cons q t, .cons r rs => by
    obtain ⟨as, z1, g1⟩ := PyV.reads ok KX sm q r
    obtain ⟨bs, z2, g2⟩ := PyVs.reads ok KX sm t rs
    exact ⟨_, .cons z1 z2, fun a ha => (List.mem_append.mp ha).elim (g1 a) (g2 a)⟩
theorem PyVk.reads (ok : HOk P w H h) (KX : K.In h) (sm : smK K = true) : ∀ {vs : List (Key × V)} {ps : List (PyData × PyData)} {us : List (Key × Value)} {es : List DictEntry}, PyVk K H vs ps → KV vs us → Pairs (mixKind P w) es us →
    ∃ as bs, ReadsAll h (es.map (·.key)) (ps.map (·.1)) as ∧ ReadsAll h (es.map (·.val)) (ps.map (·.2)) bs ∧ ∀ a, a ∈ as ∨ a ∈ bs → a ≠ sysModules
  | _, _, _, _, .nil, .nil, .nil => ⟨_, _, .nil, .nil, fun _ z => z.elim (fun z => nomatch z) fun z => nomatch z⟩
  | _, _, _, _, .cons q t, .cons r rs, .cons k1 k2 k3 => by
    obtain ⟨as, z1, g1⟩ := PyV.reads ok KX sm q r.2
    obtain ⟨bs, cs, z2, z3, g2⟩ := PyVk.reads ok KX sm t rs k3
    have r1 := r.1
    dsimp only at r1
    rw [← r1] at k1
    rw [← k2] at z1
    refine ⟨_, _, .cons (entry_key k1) z2, .cons z1 z3, fun a ha => ?_⟩
    rw [List.nil_append] at ha
    rcases ha with ha | ha
    · exact g2 a (.inl ha)
    · exact (List.mem_append.mp ha).elim (g1 a) fun ha => g2 a (.inr ha)
end
def rShow (K : PySem.W.Frag) : List V → Hp → VK → Prop := fun xs H Q => ∃ x p, xs = [x] ∧ PyV K H x p ∧ okShow p = true ∧ Q (.str p.shown) H
theorem okShow_of {p : PyData} (h : okShow p = true) : p.showable = true ∧ p.shown.length ≤ sizeLine ∧ p.depth ≤ 60 := by
  simp only [okShow, Bool.and_eq_true, decide_eq_true_eq] at h
  exact ⟨h.1.1, h.1.2, h.2⟩
theorem call_reprD {k : Nat} (rm : Room k X.A) (gd : Gd X.A) (sm : smK X.K = true) : CallR X (.builtin "repr") (rShow X.K) := by
  intro pins s σ H xs us Q I r hh
  obtain ⟨x, p, rfl, pv, ok, q⟩ := hh
  obtain ⟨u, rfl, ru⟩ := vals1 r
  obtain ⟨c1, c2, c3⟩ := okShow_of ok
  have un := rm.units
  cases pv with
  | non =>
    cases (show u = Value.none from ru)
    exact PySem.P.repr_of_none ⟨.str _, H, I.tok _, ⟨_, rfl⟩, by simpa [PyData.shown] using q⟩
  | bl b =>
    cases (show u = Value.bool b from ru)
    exact PySem.P.repr_of_bool ⟨.str _, H, I.tok _, ⟨_, rfl⟩, by simpa [PyData.shown] using q⟩
  | int i =>
    obtain ⟨t, rfl⟩ := ru
    exact PySem.P.repr_of_int (by simpa [PyData.showable] using c1) ⟨.str _, H, I.tok _, ⟨_, rfl⟩, by simpa [PyData.shown] using q⟩
  | str y =>
    obtain ⟨t, rfl⟩ := ru
    exact PySem.P.repr_of_str ⟨.str _, H, I.tok _, ⟨_, rfl⟩, by simpa [PyData.shown] using q⟩ (by simpa [PyData.shown] using c2)
  | lst e t =>
    cases (show u = Value.ref _ from ru)
    obtain ⟨as, z, g⟩ := PyV.reads I.hok I.kIn sm (.lst e t) rfl
    exact repr_of_reads' z c1 (fun _ hm => g _ hm rfl) gd (by omega) (fun _ _ y => y) (fun h' u tk hk => ⟨.str _, H, I.kept (t' := tk) hk, ⟨_, rfl⟩, q⟩) c2
  | tup e t =>
    cases (show u = Value.ref _ from ru)
    obtain ⟨as, z, g⟩ := PyV.reads I.hok I.kIn sm (.tup e t) rfl
    exact repr_of_reads' z c1 (fun _ hm => g _ hm rfl) gd (by omega) (fun _ _ y => y) (fun h' u tk hk => ⟨.str _, H, I.kept (t' := tk) hk, ⟨_, rfl⟩, q⟩) c2
  | dic e t =>
    cases (show u = Value.ref _ from ru)
    obtain ⟨as, z, g⟩ := PyV.reads I.hok I.kIn sm (.dic e t) rfl
    exact repr_of_reads' z c1 (fun _ hm => g _ hm rfl) gd (by omega) (fun _ _ y => y) (fun h' u tk hk => ⟨.str _, H, I.kept (t' := tk) hk, ⟨_, rfl⟩, q⟩) c2
end
end DL
namespace DL
open PySem PySem.Spec PyProof.Rows L2
section
variable [PWd]
variable {K Kc : PySem.W.Frag} {G G' H H' : Hp}
mutual
theorem rep_py (sm : Same G H) : ∀ {v : V} {d : D} {p : PyData}, Rep K G v d → pyOf d = some p → PyV K H v p
  | _, _, _, .non, e => by cases e; exact .non
  | _, _, _, .bl b, e => by cases e; exact .bl b
  | _, _, _, .int i, e => by cases e; exact .int i
  | _, _, _, .str x, e => by cases e; exact .str x
  | _, _, _, .lst h r, e => by
    simp only [pyOf, Option.map_eq_some_iff] at e
    obtain ⟨ps, e, rfl⟩ := e
    exact .lst (SqL.of (sm _ _ h)) (reps_py sm r e)
  | _, _, _, .rol h r, e => by
    simp only [pyOf, Option.map_eq_some_iff] at e
    obtain ⟨ps, e, rfl⟩ := e
    exact .lst (sm.seq h) (reps_py sm r e)
  | _, _, _, .tup h r, e => by
    simp only [pyOf, Option.map_eq_some_iff] at e
    obtain ⟨ps, e, rfl⟩ := e
    exact .tup (Same.seqT sm h) (reps_py sm r e)
  | _, _, _, .dic h r, e => by
    simp only [pyOf, Option.map_eq_some_iff] at e
    obtain ⟨ps, e, rfl⟩ := e
    exact .dic (.inr ⟨_, sm _ _ h⟩) (repp_py sm r e)
  | _, _, _, .ins _ _, e => by simp [pyOf] at e
  | _, _, _, .cls _, e => by simp [pyOf] at e
  | _, _, _, .ty _, e => by simp [pyOf] at e
  | _, _, _, .set _, e => by simp [pyOf] at e
  | _, _, _, .exn _, e => by simp [pyOf] at e
  | _, _, _, .exd _ _ _, e => by simp [pyOf] at e
theorem reps_py (sm : Same G H) : ∀ {vs : List V} {ds : List D} {ps : List PyData}, RepL K G vs ds → pyOfs ds = some ps → PyVs K H vs ps
  | _, _, _, .nil, e => by cases e; exact .nil
  | _, _, _, .cons r t, e => by
    simp only [pyOfs, Option.bind_eq_some_iff, Option.map_eq_some_iff] at e
    obtain ⟨p, e1, ps, e2, rfl⟩ := e
    exact .cons (rep_py sm r e1) (reps_py sm t e2)
theorem repp_py (sm : Same G H) : ∀ {vs : List (Key × V)} {ds : List (Key × D)} {ps : List (PyData × PyData)}, RepP K G vs ds → pyOfK ds = some ps → PyVk K H vs ps
  | _, _, _, .nil, e => by cases e; exact .nil
  | _, _, _, .cons r t, e => by
    simp only [pyOfK, Option.bind_eq_some_iff, Option.map_eq_some_iff] at e
    obtain ⟨p, e1, ps, e2, rfl⟩ := e
    exact .cons (rep_py sm r e1) (repp_py sm t e2)
end
theorem rb_py (sm : Same G H) {v : V} {d : D} {p : PyData} (r : RB K G H v d) (e : pyOf d = some p) : PyV K H v p := by
  cases r with
  | rep r => exact rep_py sm r e
  | lst h r =>
    simp only [pyOf, Option.map_eq_some_iff] at e
    obtain ⟨ps, e, rfl⟩ := e
    exact .lst (SqL.of h) (reps_py sm r e)
  | dic h r =>
    simp only [pyOf, Option.map_eq_some_iff] at e
    obtain ⟨ps, e, rfl⟩ := e
    exact .dic (.inl h) (repp_py sm r e)
  | ins h r => simp [pyOf] at e
variable {X : Cx}
theorem s_repr : CallS X (rShow X.K) reprD := fun G H xs as d Q sm rx e q => by
  unfold reprD at e
  split at e
  · obtain ⟨p, e1, e2⟩ := Option.bind_eq_some_iff.mp e
    split at e2
    · rename_i ok
      cases e2
      obtain ⟨v, rfl, r⟩ := rb1 rx
      exact ⟨v, p, rfl, rb_py sm r e1, ok, q _ G H (Grow.refl sm) (.str _)⟩
    · cases e2
  · cases e
theorem boot_repr : bootBuiltins ("repr" : Str) = some (.builtin "repr") := by kernel_rfl
variable {P : Program} {w : World} {mg : Str → Option Value} {base : Heap} {Z : Addr → Prop}
variable {N : List Str} {sc : Scope} {Wx : WX} {k : Nat} {e : Expr} {af : AF} {p pos : Pos}
theorem de_repr (C : Ctx P w Kc mg base X N sc Wx k) (smk : smK Kc = true) (hm : mg "repr" = none) (ha : DA X Wx Z [e] af) (hg : sc.names.lookup ("repr" : Str) = some .globalImplicit := by rfl)
    (he : starEach [e] X.env = (false, eval e X.env) :: starEach [] X.env := by rfl) (hpl : (backTo pos (starEach [] X.env)).any (·.1) = false := by rfl) :
    DE X Wx Z (.Call (.Name "repr" p) [e] [] pos) (eCall reprD af) := de_bif C (call_reprD C.room C.gd (by rw [C.hK]; exact smk)) s_repr hm ha boot_repr hg (by decide) (by decide) he hpl
end
end DL

set_option Elab.async false
set_option linter.all false
set_option maxRecDepth 100000
set_option autoImplicit false
set_option maxHeartbeats 1000000
/-! x += e for whole numbers; for over the keys of a dict that is held as data; dict displays as data -/
namespace DL
open PySem PySem.Spec PyProof.Rows L2
section
variable [PWd]
variable {K Kc : PySem.W.Frag} {G G' H H' : Hp} {ι : List Addr} {M : Store} {Γ : Env} {σ : L2.St}
variable {P : Program} {w : World} {mg : Str → Option Value} {base : Heap} {Z : Addr → Prop} {X : Cx}
variable {N : List Str} {sc : Scope} {Wx : WX} {k : Nat} {e : Expr} {f : EF} {p pos : Pos}
def sAug (i : Nat) (op : Int → Int → Int) (f : EF) : SF := fun Γ M => match Γ[i]? with
  | some (some (.d (.int a))) => bndS Γ (f Γ M) fun w M1 => match w with
    | .d (.int b) => some (.nx (Γ.set i (some (.d (.int (op a b))))) M1)
    | _ => none
  | _ => none
theorem ds_aug (C : Ctx P w Kc mg base X N sc Wx k) {so : Scope} (F : Fx X so) {o : Operator} {op : Int → Int → Int} (ho : PIp X o (ipI op)) (i : Nat) {x : Str} {pos' : Pos} (he : DE X Wx Z e f) (hi : N[i]? = some x := by rfl)
    (hx : LocO sc so x := by first | exact Or.inl rfl | exact Or.inr ⟨rfl, rfl⟩) : DS X Wx Z (.AugAssign (.Name x pos') o e pos) (sAug i op f) := by
  obtain ⟨ta, pa, oa⟩ := he
  refine ⟨_, ps_aug (i := i) (by rw [C.hN]; exact C.nd) (by rw [C.hN]; exact hi) (C.loc hx.loc) pa ho (C.storeOk F hx), fun ι M Γ σ G H out D s q0 q => ?_⟩
  unfold sAug at q0
  split at q0
  · rename_i a ha
    obtain ⟨v, hv, rv⟩ := s.sl i _ ha
    cases rv with
    | d rv =>
      cases rv
      refine ⟨_, hv, oa.thenS s q0 q fun w M1 e1 ι1 G1 H1 v1 s1 x1 r1 => ?_⟩
      split at e1
      · cases e1
        cases r1 with
        | d r1 =>
          cases r1
          exact ⟨_, _, rfl, rfl, q ι1 G1 H1 _ (s1.set i (.d (.int _))) x1⟩
      · cases e1
  · cases q0
end
end DL

set_option Elab.async false
set_option linter.all false
set_option maxRecDepth 100000
set_option autoImplicit false
set_option maxHeartbeats 4000000
/-! own exceptions as values: making -/
namespace PySem
namespace DLX
/-- what the built-in maker newId asks of the mro behind an own class -/
structure MkT (newId : String) (tl : List Value) : Prop where
  ex : ∃ (B initId : String) (bmB : List Value), ExcBaseFacts B newId initId bmB ∧ tl.contains (.type B) = true ∧ tl.contains (.type "AttributeError") = false ∧ tl.contains (.type "NameError") = false
section
variable {M : Model} {A : Around} {E : Value → Shared → Prop} {hp : Heap} {gs : Array GenState} {dr : Drawn} {tk : Nat} {os : OsState}
variable {nm qn : Str} {C N : Addr} {bs tl bmB : List Value} {hasD : Bool} {sn : List Str} {su : List Value} {ab : Bool} {co : Option Bool} {dd : Option Addr} {j0 j1 j2 j3 j5 : Option Value} {B newId initId : String}
theorem chk_new (EB : ExcBaseFacts B newId initId bmB) (cB : tl.contains (.type B) = true) {us : List Value} {Q : Unit → Shared → Prop}
    (at_ : hp.get? C = some (excClassObj nm qn C N bs tl hasD sn su ab co dd j0 j1 j2 j3 j5 newId)) (q : Q () ⟨hp, gs, dr, tk, os⟩) : wpAny M A (checkBuiltinCall newId ⟨.ref C :: us, []⟩) Q E ⟨hp, gs, dr, tk, os⟩ := by
  have c1 : (Value.ref C :: tl).contains (.type B) = true := by rw [List.contains_cons, cB, Bool.or_true]
  have nostar := EB.noStar
  simp only [checkBuiltinCall, EB.newKind, EB.newSplit, EB.newRow]
  repeat (first
    | refine wpAny_loadPart_at at_ ?_
    | (refine wpAny_isSubtype_exc at_ ?_; rw [c1])
    | refine wpAny_staticBase_exc at_ ?_
    | refine wpAny_madeBy_exc at_ ?_
    | simp only [bne_self_eq_false, Bool.false_eq_true, if_false]
    | wp_step)
  exact q
end
section
variable {prog : Program} {w : World} {A : Around} {E : Value → Shared → Prop} {R : Result → Shared → Prop} {hp : Heap} {gs : Array GenState} {dr : Drawn} {tk : Nat} {os : OsState}
variable {nm qn : Str} {C N : Addr} {bs tl bmB : List Value} {hasD : Bool} {sn : List Str} {su : List Value} {ab : Bool} {co : Option Bool} {dd : Option Addr} {j0 j1 j2 j3 j5 : Option Value} {B newId initId : String}
theorem run_new (EB : ExcBaseFacts B newId initId bmB) (cB : tl.contains (.type B) = true) (cA : tl.contains (.type "AttributeError") = false) (cN : tl.contains (.type "NameError") = false) {us : List Value}
    (at_ : hp.get? C = some (excClassObj nm qn C N bs tl hasD sn su ab co dd j0 j1 j2 j3 j5 newId))
    (q : R (.ok (.ret (.ref (hp.objs.size + 1)))) ⟨(hp.push (PySem.W.kdv_tup us)).push (PySem.HandSPX.excO C hp.objs.size), gs, dr, tk, os⟩) (few : us.length ≤ sizeLine) :
    codeAny (model prog w) A (.builtin newId ⟨.ref C :: us, []⟩) R ⟨hp, gs, dr, tk, os⟩ := by
  have ends := EB.ends
  have c1 : (Value.ref C :: tl).contains (.type B) = true := by rw [List.contains_cons, cB, Bool.or_true]
  have c2 : (Value.ref C :: tl).contains (.type "AttributeError") = false := by rw [List.contains_cons, cA]; rfl
  have c3 : (Value.ref C :: tl).contains (.type "NameError") = false := by rw [List.contains_cons, cN]; rfl
  refine codeAny_builtinAt EB.entry ?_
  unfold Builtin.«BaseException.__new__»
  refine wpAt_bind ?_
  show wpAt _ _ _ (stack >>= _) _ _ _
  refine wpAt_bind (wpAt_stack fun pp bl => wpAt_of_wpAny ?_)
  wp_walk
  refine wpAt_of_wpAny ?_
  rw [EB.owner]
  repeat (first
    | with_reducible refine wpAny_madeHere_exc EB.canon at_ ?_
    | with_reducible refine wpAny_loadPart_at at_ ?_
    | (with_reducible refine wpAny_isSubtype_exc at_ ?_; first | rw [c1] | rw [c2] | rw [c3])
    | wp_step)
  show R _ _
  rw [Heap.size_push]
  exact q
theorem typeCall_own (F : MkT newId tl) {us : List Value} {fI : Addr} {Q : Fin → Shared → Prop}
    (at_ : hp.get? C = some (excClassObj nm qn C N bs tl hasD sn su ab co dd j0 j1 j2 j3 j5 newId))
    (li : W.Looks (model prog w) hp (typeLookup (.ref C) "__init__") (some (.ref fI))) (lb : ∀ self, W.Looks (model prog w) hp (bindSpecial (.ref fI) self) (.ref fI, [self])) (few : us.length ≤ sizeLine)
    (q : codeAny (model prog w) A (.call (.ref fI) ⟨.ref (hp.objs.size + 1) :: us, []⟩) (fun r s' => match r with
        | .ok (.ret v) => v = .none ∧ Q (.done (.ret (.ref (hp.objs.size + 1)))) s'
        | .ok _ => False
        | .error e => E e s')
      ⟨(hp.push (PySem.W.kdv_tup us)).push (PySem.HandSPX.excO C hp.objs.size), gs, dr, tk, os⟩) :
    wpAny (model prog w) A (Builtin.«type.__call__» ⟨.ref C :: us, []⟩) Q E ⟨hp, gs, dr, tk, os⟩ := by
  obtain ⟨B, initId, bmB, EB, cB, cA, cN⟩ := F.ex
  repeat (first
    | with_reducible refine wpAny_loadPart_at at_ ?_
    | with_reducible refine wpAny_madeBy_exc at_ ?_
    | wp_step)
  refine codeAny_call_builtin_code (Code.quiet_builtin _ EB.quiet) (chk_new EB cB at_ ?_)
  refine run_new EB cB cA cN at_ ?_ few
  show wpAny _ _ _ _ _ _
  have old : ∀ b o, hp.get? b = some o → ((hp.push (PySem.W.kdv_tup us)).push (PySem.HandSPX.excO C hp.objs.size)).get? b = some o :=
    fun b o z => Heap.get?_push_of_some _ (Heap.get?_push_of_some _ z)
  have at1 := old _ _ at_
  have at2 : ((hp.push (PySem.W.kdv_tup us)).push (PySem.HandSPX.excO C hp.objs.size)).get? (hp.objs.size + 1) = some (PySem.HandSPX.excO C hp.objs.size) := by heap_get
  have cC : (Value.ref C :: tl).contains (.ref C) = true := by simp
  have li1 := li.keeps old
  have lb1 := (lb (.ref (hp.objs.size + 1))).keeps old
  unfold isInstance
  repeat (first
    | with_reducible refine wpAny_loadPart_at at2 ?_
    | (with_reducible refine wpAny_isSubtype_exc at1 ?_; rw [cC])
    | wp_step)
  show wpAny _ _ (typeLookup (.ref C) _) _ _ _
  refine li1.at (wpAny_holding (wpAny_bind (lb1.at ?_)))
  refine wpAny_bind (wpAny_call (codeAny_mono q fun r s' z => ?_))
  rcases r with e | (v | _ | _ | _) <;> first
    | exact z
    | exact z.elim
    | skip
  obtain ⟨rfl, z⟩ := z
  first
    | exact wpAny_pure (wpAny_pure z)
    | (wp_walk; exact z)
theorem call_ownT (F : MkT newId tl) {us : List Value} {fI : Addr}
    (at_ : hp.get? C = some (excClassObj nm qn C N bs tl hasD sn su ab co dd j0 j1 j2 j3 j5 newId))
    (li : W.Looks (model prog w) hp (typeLookup (.ref C) "__init__") (some (.ref fI))) (lb : ∀ self, W.Looks (model prog w) hp (bindSpecial (.ref fI) self) (.ref fI, [self])) (few : us.length ≤ sizeLine)
    (q : codeAny (model prog w) (A.under (.builtin "type.__call__" ⟨.ref C :: us, []⟩)) (.call (.ref fI) ⟨.ref (hp.objs.size + 1) :: us, []⟩) (W.InitBack (hp.objs.size + 1) R)
      ⟨(hp.push (PySem.W.kdv_tup us)).push (PySem.HandSPX.excO C hp.objs.size), gs, dr, tk, os⟩) :
    codeAny (model prog w) A (.call (.ref C) ⟨us, []⟩) R ⟨hp, gs, dr, tk, os⟩ := by
  have l1 := tc_lookup
  have l2 := tc_bind (.ref C)
  have ty : (⟨hp, gs, dr, tk, os⟩ : Shared).TypeIs (.ref C) "type" := ⟨_, at_, rfl⟩
  refine codeAny_of_tree ?_
  show wpAny _ _ (callAny (.ref C) _) _ _ _
  repeat (any_goals (first
    | assumption
    | with_reducible refine wpAny_loadPart_at at_ ?_
    | wp_step))
  refine ⟨rfl, ?_⟩
  refine codeAny_call_builtin_at (Code.quiet_builtin _ (by decide +kernel)) entry_typeCall (wpAny_check_type_call_sub at_ (typeCall_own F at_ li lb few ?_))
  refine codeAny_mono q fun r s' z => ?_
  rcases r with e | (v | _ | _ | _) <;> exact z
end
end DLX
end PySem

set_option Elab.async false
set_option linter.all false
set_option maxRecDepth 100000
set_option autoImplicit false
set_option maxHeartbeats 4000000
/-! own exception classes whose `__init__` stores its one argument, over any built-in base -/
namespace DL
open PySem PySem.Spec PyProof.Rows L2 PySem.DLX
section
open Builtin Builtin.ObjectAttr
variable {prog : Program} {w : World} {A : Around} {R : Result → Shared → Prop} {hp : Heap} {g : Array GenState} {d : Drawn} {t : Nat} {os : OsState}
/-- the first field of an exception whose class's mro lets stores pass -/
theorem put_first {K : PySem.W.Frag} {f : Str} {tk : Tok} {v : Value} {x C : Addr} {fv : Array Value} {cd : ClassData}
    (inK : K.In hp) (at_ : hp.get? x = some { cls := .ref C, data := .fields fv }) (cl : PySem.W.clsIn K C = some cd) (ps : ∀ self, refuseLoop self "__setattr__" cd.mro = pure ())
    (ob : cd.mro.contains (.type "object") = true) (ne : cd.mro.isEmpty = false) (hd : cd.hasDict = true) (no : PySem.W.findIn K (.ref C) f = some none)
    (q : ∀ h' tk' dx, (∀ b o, b ≠ x → hp.get? b = some o → h'.get? b = some o) → hp.objs.size ≤ dx → dx ≠ x → h'.get? x = some { cls := .ref C, dict := some dx, data := .fields fv } →
      h'.Ns1 dx (fun y => if y = f then some v else none) → R (.ok (.ret .none)) ⟨h', g, d, tk', os⟩) :
    codeAny (model prog w) A (.call (.builtin "object.__setattr__") ⟨[.ref x, .str f tk, v], []⟩) R ⟨hp, g, d, t, os⟩ := by
  have at0 : PySem.W.InstAt hp x { cls := .ref C, data := .fields fv } C none := ⟨at_, rfl, rfl, trivial⟩
  have sf := F.store_object
  have xs : x ≠ hp.objs.size := Nat.ne_of_lt (Heap.lt_size at_)
  have mr : PySem.W.mroIn K C (.type "object") = some true := by
    unfold PySem.W.mroIn
    rw [cl, Option.bind_some, if_neg (by rw [ne]; decide), ob]
  have su : PySem.W.Looks (model prog w) hp (isInstance (.ref x) (.type "object")) true := at0.type.andThen (PySem.W.looks_mroIn inK mr)
  refine codeAny_call_builtin sf.slot.plain sf.entry (@PySem.W.check_slot (model prog w) _ _ ⟨hp, g, d, t, os⟩ "object.__setattr__" "object" "__setattr__" (.ref x) [.str f tk, v] [] _
    sf.kind sf.split su (sf.args (.ref x) (.str f tk) v) ?_)
  have lm : PySem.W.Looks (model prog w) hp (mroOf (.ref C)) cd.mro := (PySem.W.looks_clsIn inK cl).andThen .now
  have ls : PySem.W.Looks (model prog w) hp (storeTaker? none) none := .now
  have lc : PySem.W.Looks (model prog w) hp (classData C) cd := PySem.W.looks_clsIn inK cl
  rw [PySem.W.osa_eq, refuse_eq]
  refine wpAny_bind (wpAny_bind (at0.type.at (wpAny_bind (lm.at ?_))))
  rw [ps]
  refine wpAny_pure (wpAny_bind (at0.type.at (wpAny_bind ((PySem.W.looks_findIn inK no).at (wpAny_bind (ls.at ?_))))))
  show wpAny _ _ (storeInOwnDict (.ref x) (.ref C) (.str f tk) f v false) _ _ _
  obtain ⟨nm, bs, mro, ns, qn, hasD, sn, sb, ab, col, del⟩ := cd
  cases (show hasD = true from hd)
  unfold storeInOwnDict ownDictForStores
  repeat (first | with_reducible refine PySem.HandSPX.store_in_new ?_ ?_ | with_reducible refine wpAny_loadPart_at at_ ?_ | with_reducible refine lc.at ?_ | wp_step)
  · exact ⟨_, #[], _, (Heap.get?_update_ne _ _ _ _ xs.symm).trans (Heap.get?_push_at rfl rfl), rfl, fun e he => absurd he (by simp), fun _ => rfl⟩
  · intro h' tk' ns' sb'
    have a1 : (hp.push { cls := .type "dict", data := .dict #[] }).get? x = some { cls := .ref C, data := .fields fv } := Heap.get?_push_of_some _ at_
    refine q h' tk' hp.objs.size (fun b o nb z => ?_) (Nat.le_refl _) xs.symm ?_ ns'
    · exact (sb'.2 b (Nat.ne_of_lt (Heap.lt_size z))).trans ((Heap.get?_update_ne _ _ _ _ nb).trans (Heap.get?_push_of_some _ z))
    · exact (sb'.2 x xs).trans (Heap.get?_update_self _ a1 rfl)
end
end DL
namespace DL
open PySem PySem.Spec PyProof.Rows L2 PySem.DLX
/-- what the top tells of such a class: its base's mro tl, its `__init__` -/
structure OexT (K : PySem.W.Frag) (C fI : Addr) (tl : List Value) (newId : String) : Prop where
  obj : ∃ nm q N bs sn sub ab col dd k0 k1 k2 k3 k5, K.lookup C = some (excClassObj nm q C N bs tl true sn sub ab col dd k0 k1 k2 k3 k5 newId)
  put : PySem.W.findIn K (.ref C) "__setattr__" = some (some (.builtin "object.__setattr__"))
  isE : PySem.W.subIn K (.ref C) (.type "BaseException") = some true
  ty : PySem.W.typeIn K (.ref C) = some (.type "type")
  kp : PySem.W.keepIn K (.ref C) = true
  ini : PySem.W.findIn K (.ref C) "__init__" = some (some (.ref fI))
  fn : PySem.W.typeIn K (.ref fI) = some (.type "function")
/-- what is true of the base's mro -/
structure Tail (tl : List Value) : Prop where
  pass : ∀ self, refuseLoop self "__setattr__" tl = pure ()
  ob : tl.contains (.type "object") = true
section
variable {X : Cx} {pins : List (Addr × Obj)} {σ : L2.St} {H : Hp} {s : Shared} {a C fI : Addr} {f : Str} {y : V} {u : Value} {tl : List Value} {newId : String}
theorem put_self {A : Around} {E : Value → Shared → Prop} {Q : Unit → Shared → Prop} (T : OexT X.K C fI tl newId) (B : Tail tl) (I : Inv X pins σ H s) (ea : H a = some (exo a C none)) (no : PySem.W.findIn X.K (.ref C) f = some none) (ry : RelV y u)
    (q : ∀ dx s', H dx = none → dx ≠ a → Inv X pins σ (upd (upd H dx (exd dx [(f, y)])) a (exo a C (some dx))) s' → Q () s') : wpAny (model X.prog X.w) A (setAttr (.ref a) f u) Q E s := by
  obtain ⟨nm, qn, N, bs, sn, sub, ab, col, dd, k0, k1, k2, k3, k5, lk⟩ := T.obj
  obtain ⟨t1, ho⟩ := exo_at I.hok ea
  have cl : ∃ cd, PySem.W.clsIn X.K C = some cd ∧ cd.mro = .ref C :: tl ∧ cd.hasDict = true := by
    unfold PySem.W.clsIn
    rw [lk]
    exact ⟨_, rfl, rfl, rfl⟩
  obtain ⟨cd, cl, mro, hd⟩ := cl
  obtain ⟨hp, g, d, t, os⟩ := s
  refine PySem.W.set_plain I.kIn (ox := { cls := .ref C, dict := none, data := .fields #[.ref t1, .none, .none, .none, .bool false, .none] }) (od := none) ⟨ho, rfl, rfl, trivial⟩ T.put ?_
  refine put_first I.kIn ho cl (fun self => by rw [mro, refuseLoop_ref]; exact B.pass self) (by rw [mro, List.contains_cons, B.ob, Bool.or_true]) (by rw [mro]; rfl) hd no fun h' tk' dx old dn dne at' ns' => ?_
  have fresh : H dx = none := I.hok.fresh dn
  have offA : ∀ {b : Addr}, H b = none → b ≠ a := fun n z => by
    subst z
    rw [ea] at n
    cases n
  have offD : ∀ {b : Addr} {o : Obj}, hp.get? b = some o → b ≠ dx := fun z => Nat.ne_of_lt (Nat.lt_of_lt_of_le (Heap.lt_size z) dn)
  have un : Un X.fs [] H (upd (upd H dx (exd dx [(f, y)])) a (exo a C (some dx))) hp h' := by
    constructor
    · exact fun b o z n _ _ => old b o (offA n) z
    · exact fun b o z n _ _ => ⟨o.slots, old b o (offA n) z⟩
    · exact fun b o z n _ => (upd_ne (offA n)).trans ((upd_ne (offD z)).trans n)
    · intro b o z _
      by_cases hb : b = a
      · subst hb
        exact ⟨_, at'⟩
      · exact ⟨o, old b o hb z⟩
    · exact fun b xs z => (upd_ne (at_ne ea z exo_tup)).trans ((upd_ne (ne_of_none z fresh)).trans z)
    · exact fun b o v z => (upd_ne (at_ne ea z exo_frz)).trans ((upd_ne (ne_of_none z fresh)).trans z)
    · exact fun b ps z => ⟨#[], by rw [upd_ne (at_ne ea z exo_tbl), upd_ne (ne_of_none z fresh), z, Array.append_empty]⟩
  refine q dx _ fresh dne (I.un (t' := tk') un fun b o z => ?_)
  by_cases hb : b = a
  · subst hb
    rw [upd_same] at z
    cases z
    exact exo_ok at'
  rw [upd_ne hb] at z
  by_cases hd' : b = dx
  · subst hd'
    rw [upd_same] at z
    cases z
    exact exd_ok ns' (relO_put (fs := []) ry fun g => True.intro)
  rw [upd_ne hd'] at z
  refine (I.hok b o z).stay (fun c v hc z' => old c v ?_ z') (fun c hc => ?_) fun c xs hc => ?_
  · rcases hc with rfl | hc
    · exact hb
    · exact at_ne ea hc exo_own
  · exact (upd_ne (at_ne ea hc exo_own)).trans ((upd_ne (ne_of_none hc fresh)).trans hc)
  · exact (upd_ne (at_ne ea hc exo_tup)).trans ((upd_ne (ne_of_none hc fresh)).trans hc)
/-- self.f = e, at the head of such an `__init__` -/
def tPutS (K : PySem.W.Frag) (fI : Addr) (tl : List Value) (newId : String) (f : Str) (to te : TE) : TS := fun D σ H => te σ H fun y H1 => to σ H1 fun x H2 => ∃ a C : Addr, x = .ref a ∧ OexT K C fI tl newId ∧ PySem.W.findIn K (.ref C) f = some none ∧
  H2 a = some (exo a C none) ∧ ∀ dx, H2 dx = none → dx ≠ a → D.nx σ (upd (upd H2 dx (exd dx [(f, y)])) a (exo a C (some dx)))
theorem ps_putS {o e : Expr} {to te : TE} {p' pos : Pos} (B : Tail tl) (ho : PE X o to) (he : PE X e te) (hs : swapsWith e (some (.Attribute o f p')) pos.line X.env = pure false := by rfl) :
    PS X (.Assign [.Attribute o f p'] e pos) (tPutS X.K fI tl newId f to te) := by
  constructor
  intro pins s σ H D I q
  refine plainObj_wpAny_Assign_Attribute (thn (he.run pins s σ H _ I q) fun v s1 ⟨y, H1, I1, r1, q1⟩ => thn (ho.run pins s1 σ H1 _ I1 q1) fun u s2 hu => ?_) hs
  obtain ⟨x, H2, I2, r2, a, C, ex, T, no, ea, q2⟩ := hu
  subst ex
  cases (show u = Value.ref a from r2)
  exact put_self T B I2 ea no r1 fun dx s' n ne J => ⟨σ, _, J, q2 dx n ne⟩
end
end DL
namespace DL
open PySem PySem.Spec PyProof.Rows L2 PySem.DLX
/-- what such an `__init__` promises -/
def spI (K : PySem.W.Frag) (C fI : Addr) (tl : List Value) (newId : String) (f : Str) : Sp := fun vs H Q _ => ∃ (a : Addr) (y : V), vs = [.ref a, y] ∧ H a = some (exo a C none) ∧
  ∀ dx, H dx = none → dx ≠ a → Q .non (upd (upd H dx (exd dx [(f, y)])) a (exo a C (some dx)))
theorem ok_init {P : Program} {w : World} {K : PySem.W.Frag} {mg : Str → Option Value} {base : Heap} {CX : CXT} {C fI : Addr} {fd : FuncData} {tl : List Value} {newId : String} {f x qual arg : Str} {params : Arguments} {sc : Scope} {p1 p2 p3 p4 : Pos}
    (T : OexT K C fI tl newId) (B : Tail tl) (no : PySem.W.findIn K (.ref C) f = some none)
    (F : FunD K x qual params [.Assign [.Attribute (.Name "self" p1) f p2] (.Name arg p3) p4] sc [] [] fI fd) (S : FnScope ["self", arg] ["self", arg] sc)
    (v1 : Vis sc "self") (v2 : Vis sc arg) (d2 : (arg == ("__debug__" : Str)) = false) (c2 : (arg == ("__classdict__" : Str)) = false)
    (hs : ∀ (env : PySem.Env), swapsWith (.Name arg p3) (some (.Attribute (.Name "self" p1) f p2)) p4.line env = pure false) :
    FnG P w K mg base CX 1 fI fd ["self", arg] (spI K C fI tl newId f) := by
  refine fng_of (k := 0) F S (fun vs H Q E q => ?_) fun cd A fr s H vs Q E rm gd q => ?_
  · obtain ⟨a, y, rfl, _⟩ := q
    rfl
  · obtain ⟨a, y, rfl, ea, q⟩ := q
    refine ⟨_, pss_one (ps_putS (fI := fI) (tl := tl) (newId := newId) B (pe_var (i := 0) rfl v1) (pe_var (i := 1) rfl v2 d2 c2) (hs _)), ?_⟩
    exact ⟨y, rfl, .ref a, rfl, a, C, rfl, T, no, ea, fun dx n ne => q dx n ne⟩
def tMkT (C : Addr) (f : Str) (ta : TA) : L2.St → Hp → XK → Prop := fun σ H Q => ta σ H fun vs H1 => ∃ y, vs = [y] ∧ ∀ dx, H1 dx = none → Q (.ref C) (some dx) (upd H1 dx (.xd [(f, y)]))
theorem pmk_own_fs {X : Cx} {k : Nat} {C fI : Addr} {fd : FuncData} {tl : List Value} {newId : String} {f x arg : Str} {e : Expr} {ta : TA} {p pos : Pos} (EB : MkT newId tl)
    (T : OexT X.K C fI tl newId) (F1 : FnG X.prog X.w X.K X.mg X.base CX0 k fI fd ["self", arg] (spI X.K C fI tl newId f)) (rm : Room (k + 1) X.A) (gd : Gd X.A) (bd : Binds X.K fd ["self", arg] [])
    (gl : Gl X x) (at_ : X.mg x = some (.ref C)) (ha : PA X [e] ta) (db : (x == ("__debug__" : Str)) = false := by decide)
    (se : starEach [e] X.env = (false, eval e X.env) :: starEach [] X.env := by rfl) (sn : (backTo pos (starEach [] X.env)).any (·.1) = false := by rfl) :
    PMk X (.Call (.Name x p) [e] [] pos) (tMkT C f ta) := by
  intro pins s σ H Q I q
  obtain ⟨nm, qn, N, bs, sn', sub, ab, col, dd, k0, k1, k2, k3, k5, lk⟩ := T.obj
  refine wpAny_Call_Name_kw (ld_glob I gl at_ ?_ db)
  refine PySem.W.callWith_K (h₀ := X.base) I.ok.mod.kin T.kp (thn (ha.run pos pins s σ H _ I q) fun us s1 ⟨vs, H1, I1, r1, y, ey, q1⟩ => ⟨I1.kIn, ?_⟩) se sn
  subst ey
  obtain ⟨u, rfl, ru⟩ := vals1 r1
  show wpAny _ _ (call (.ref C) [u]) _ _ _
  obtain ⟨hp, g, dr, tk, os⟩ := s1
  have up : hp.objs.size ≤ hp.objs.size + 1 := Nat.le_succ _
  have fresh : H1 (hp.objs.size + 1) = none := I1.hok.fresh up
  have old : ∀ b o, hp.get? b = some o → ((hp.push (PySem.W.kdv_tup [u])).push (PySem.HandSPX.excO C hp.objs.size)).get? b = some o :=
    fun b o z => Heap.get?_push_of_some _ (Heap.get?_push_of_some _ z)
  have at' : ((hp.push (PySem.W.kdv_tup [u])).push (PySem.HandSPX.excO C hp.objs.size)).get? (hp.objs.size + 1) = some (PySem.HandSPX.excO C hp.objs.size) := by heap_get
  have I2 := I1.laid (t' := tk) (a := hp.objs.size + 1) (o := exo (hp.objs.size + 1) C none) (h' := (hp.push (PySem.W.kdv_tup [u])).push (PySem.HandSPX.excO C hp.objs.size)) old up (exo_ok at')
  have one : ([u] : List Value).length ≤ sizeLine := by show 1 ≤ sizeLine; decide
  have run := F1.goes _ X.stack _ _ ⟨[Value.ref (hp.objs.size + 1), u], []⟩ [Value.ref (hp.objs.size + 1), u] [V.ref (hp.objs.size + 1), y]
    (fun v H2 => v = .non ∧ ∃ dx, dx ≠ hp.objs.size + 1 ∧ H1 dx = none ∧ H2 = upd (upd (upd H1 (hp.objs.size + 1) (exo (hp.objs.size + 1) C none)) dx (exd dx [(f, y)])) (hp.objs.size + 1) (exo (hp.objs.size + 1) C (some dx)))
    (fun _ _ _ => False) (rm.make C [u] []) (gd.make C [u] []) (I2.env0.make C [u] []) (by
      have b := bd _ [Value.ref (hp.objs.size + 1), u] I2.kIn rfl
      rw [List.append_nil] at b
      exact b) (.cons rfl (.cons ru .nil))
    ⟨_, y, rfl, upd_same, fun dx n ne => ⟨rfl, dx, ne, by rw [upd_ne ne] at n; exact n, rfl⟩⟩
  refine wpAny_call (call_ownT EB (I1.kIn _ _ lk) (PySem.W.looks_findIn I1.kIn T.ini) (fun self => PySem.W.bind_fn I1.kIn self T.fn) one
    (codeAny_mono run fun r s' z => ?_))
  match r, z with
  | .error er, z => exact z.elim
  | .ok (.ret v), ⟨vv, H2, os2, bare2, un2, hok2, rv, ev, dx, ne, n, eH⟩ =>
    subst ev
    subst eH
    obtain ⟨h2, g2, d2, t2, os'⟩ := s'
    have ea : (upd (upd (upd H1 (hp.objs.size + 1) (exo (hp.objs.size + 1) C none)) dx (exd dx [(f, y)])) (hp.objs.size + 1) (exo (hp.objs.size + 1) C (some dx))) (hp.objs.size + 1) = some (exo (hp.objs.size + 1) C (some dx)) := upd_same
    have ed : (upd (upd (upd H1 (hp.objs.size + 1) (exo (hp.objs.size + 1) C none)) dx (exd dx [(f, y)])) (hp.objs.size + 1) (exo (hp.objs.size + 1) C (some dx))) dx = some (exd dx [(f, y)]) := (upd_ne ne).trans upd_same
    refine ⟨rv, mk_end (raises_own T.isE T.ty) I1 up old un2 hok2 os2 bare2 ea ed n ?_⟩
    have eH : upd (del (upd (upd (upd H1 (hp.objs.size + 1) (exo (hp.objs.size + 1) C none)) dx (exd dx [(f, y)])) (hp.objs.size + 1) (exo (hp.objs.size + 1) C (some dx))) (hp.objs.size + 1)) dx (.xd [(f, y)]) = upd H1 dx (.xd [(f, y)]) := by
      funext b
      by_cases hb : b = dx
      · rw [hb, upd_same, upd_same]
      · rw [upd_ne hb, upd_ne hb]
        by_cases hc : b = hp.objs.size + 1
        · rw [hc, del_same, fresh]
        · rw [del_ne hc, upd_ne hc, upd_ne hb, upd_ne hc]
    rw [eH]
    exact q1 dx n
/-- X(e) as a value -/
def tMkV (C : Addr) (f : Str) (ta : TA) : TE := fun σ H Q => ta σ H fun vs H1 => ∃ y, vs = [y] ∧ ∀ a dx, H1 a = none → H1 dx = none → dx ≠ a → Q (.ref a) (upd (upd H1 dx (exd dx [(f, y)])) a (exo a C (some dx)))
theorem pe_own_fs {X : Cx} {k : Nat} {C fI : Addr} {fd : FuncData} {tl : List Value} {newId : String} {f x arg : Str} {e : Expr} {ta : TA} {p pos : Pos} (EB : MkT newId tl)
    (T : OexT X.K C fI tl newId) (F1 : FnG X.prog X.w X.K X.mg X.base CX0 k fI fd ["self", arg] (spI X.K C fI tl newId f)) (rm : Room (k + 1) X.A) (gd : Gd X.A) (bd : Binds X.K fd ["self", arg] [])
    (gl : Gl X x) (at_ : X.mg x = some (.ref C)) (ha : PA X [e] ta) (db : (x == ("__debug__" : Str)) = false := by decide)
    (se : starEach [e] X.env = (false, eval e X.env) :: starEach [] X.env := by rfl) (sn : (backTo pos (starEach [] X.env)).any (·.1) = false := by rfl) :
    PE X (.Call (.Name x p) [e] [] pos) (tMkV C f ta) := by
  refine ⟨fun pins s σ H Q I q => ?_⟩
  obtain ⟨nm, qn, N, bs, sn', sub, ab, col, dd, k0, k1, k2, k3, k5, lk⟩ := T.obj
  refine wpAny_Call_Name_kw (ld_glob I gl at_ ?_ db)
  refine PySem.W.callWith_K (h₀ := X.base) I.ok.mod.kin T.kp (thn (ha.run pos pins s σ H _ I q) fun us s1 ⟨vs, H1, I1, r1, y, ey, q1⟩ => ⟨I1.kIn, ?_⟩) se sn
  subst ey
  obtain ⟨u, rfl, ru⟩ := vals1 r1
  show wpAny _ _ (call (.ref C) [u]) _ _ _
  obtain ⟨hp, g, dr, tk, os⟩ := s1
  have up : hp.objs.size ≤ hp.objs.size + 1 := Nat.le_succ _
  have fresh : H1 (hp.objs.size + 1) = none := I1.hok.fresh up
  have old : ∀ b o, hp.get? b = some o → ((hp.push (PySem.W.kdv_tup [u])).push (PySem.HandSPX.excO C hp.objs.size)).get? b = some o :=
    fun b o z => Heap.get?_push_of_some _ (Heap.get?_push_of_some _ z)
  have at' : ((hp.push (PySem.W.kdv_tup [u])).push (PySem.HandSPX.excO C hp.objs.size)).get? (hp.objs.size + 1) = some (PySem.HandSPX.excO C hp.objs.size) := by heap_get
  have I2 := I1.laid (t' := tk) (a := hp.objs.size + 1) (o := exo (hp.objs.size + 1) C none) (h' := (hp.push (PySem.W.kdv_tup [u])).push (PySem.HandSPX.excO C hp.objs.size)) old up (exo_ok at')
  have one : ([u] : List Value).length ≤ sizeLine := by show 1 ≤ sizeLine; decide
  have run := F1.goes _ X.stack _ _ ⟨[Value.ref (hp.objs.size + 1), u], []⟩ [Value.ref (hp.objs.size + 1), u] [V.ref (hp.objs.size + 1), y]
    (fun v H2 => v = .non ∧ ∃ dx, dx ≠ hp.objs.size + 1 ∧ H1 dx = none ∧ H2 = upd (upd (upd H1 (hp.objs.size + 1) (exo (hp.objs.size + 1) C none)) dx (exd dx [(f, y)])) (hp.objs.size + 1) (exo (hp.objs.size + 1) C (some dx)))
    (fun _ _ _ => False) (rm.make C [u] []) (gd.make C [u] []) (I2.env0.make C [u] []) (by
      have b := bd _ [Value.ref (hp.objs.size + 1), u] I2.kIn rfl
      rw [List.append_nil] at b
      exact b) (.cons rfl (.cons ru .nil))
    ⟨_, y, rfl, upd_same, fun dx n ne => ⟨rfl, dx, ne, by rw [upd_ne ne] at n; exact n, rfl⟩⟩
  refine wpAny_call (call_ownT EB (I1.kIn _ _ lk) (PySem.W.looks_findIn I1.kIn T.ini) (fun self => PySem.W.bind_fn I1.kIn self T.fn) one
    (codeAny_mono run fun r s' z => ?_))
  match r, z with
  | .error er, z => exact z.elim
  | .ok (.ret v), ⟨vv, H2, os2, bare2, un2, hok2, rv, ev, dx, ne, n, eH⟩ =>
    subst ev
    subst eH
    obtain ⟨h2, g2, d2, t2, os'⟩ := s'
    cases (show os' = os from os2)
    have eH : upd (upd (upd H1 (hp.objs.size + 1) (exo (hp.objs.size + 1) C none)) dx (exd dx [(f, y)])) (hp.objs.size + 1) (exo (hp.objs.size + 1) C (some dx)) = upd (upd H1 dx (exd dx [(f, y)])) (hp.objs.size + 1) (exo (hp.objs.size + 1) C (some dx)) := by
      funext b
      by_cases hc : b = hp.objs.size + 1
      · rw [hc, upd_same, upd_same]
      · rw [upd_ne hc, upd_ne hc]
        by_cases hb : b = dx
        · rw [hb, upd_same, upd_same]
        · rw [upd_ne hb, upd_ne hb, upd_ne hc]
    have J := I2.call (h' := h2) (g' := g2) (d' := d2) (t' := t2) (ch := []) un2 hok2 bare2 (fun b z => absurd z (by simp))
    rw [eH] at J
    exact ⟨rv, .ref (hp.objs.size + 1), _, J, rfl, q1 _ dx fresh n ne⟩
end DL

set_option Elab.async false
set_option linter.all false
set_option maxRecDepth 100000
set_option autoImplicit false
set_option maxHeartbeats 4000000
/-! raise X(e), X an own class that keeps e -/
namespace DL
open PySem PySem.Spec PyProof.Rows L2 PySem.DLX
/-- what the head tells of such a class: it keeps its one argument as f -/
structure OwnF (P : Program) (w : World) (K : PySem.W.Frag) (mg : Str → Option Value) (base : Heap) (x f : Str) : Prop where
  all : ∃ (fI : Addr) (fd : FuncData) (tl : List Value) (newId : String) (arg : Str), MkT newId tl ∧ OexT K (He.ga K x) fI tl newId ∧
    FnG P w K mg base CX0 1 fI fd ["self", arg] (spI K (He.ga K x) fI tl newId f) ∧ Binds K fd ["self", arg] []
  at_ : mg x = some (.ref (He.ga K x))
def sRaiseF (x f : Str) (g : AF) : SF := fun Γ M => bndS Γ (g Γ M) fun ws M1 => match ws with
  | [.d d] => some (.ex ⟨x, [(f, d)]⟩ Γ M1)
  | _ => none
section
variable [PWd]
variable {K : PySem.W.Frag} {P : Program} {w : World} {mg : Str → Option Value} {base : Heap} {Z : Addr → Prop} {X : Cx}
variable {N : List Str} {sc : Scope} {Wx : WX} {k : Nat} {e : Expr} {af : AF} {p pos pos' : Pos} {x f : Str}
theorem ds_raiseF (C : Ctx P w K mg base X N sc Wx k) (o : OwnF P w K mg base x f) (hk : 2 ≤ k) (ha : DA X Wx Z [e] af) (hg : sc.names.lookup x = some .globalImplicit := by rfl) (hdb : (x == ("__debug__" : Str)) = false := by decide)
    (se : starEach [e] X.env = (false, eval e X.env) :: starEach [] X.env := by rfl) (sn : (backTo pos' (starEach [] X.env)).any (·.1) = false := by rfl) :
    DS X Wx Z (.Raise (some (.Call (.Name x p) [e] [] pos')) none pos) (sRaiseF x f af) := by
  obtain ⟨⟨ta, pa, oa⟩, len⟩ := ha
  obtain ⟨⟨fI, fd, tl, newId, arg, eb, T, F1, bd⟩, at_⟩ := o
  have hg := C.g hg
  have room := C.room
  have gd := C.gd
  have calm := C.calm
  have tk := C.tk
  obtain ⟨rfl, rfl, rfl, rfl, rfl, _⟩ := C
  refine ⟨_, ps_raise calm tk (pmk_own_fs eb T F1 (room.mono hk) gd bd hg at_ pa hdb se sn), fun ι M Γ σ G H out D s e q => ?_⟩
  rcases bndS_some e with ⟨ws, M1, e1, e2⟩ | ⟨x', M1, e1, e2⟩
  · refine oa ι M Γ σ G H _ _ s e1 fun ι1 G1 H1 vs s1 x1 r1 => ?_
    split at e2
    · cases e2
      cases r1 with
      | @cons v _ _ _ r t =>
        cases t
        cases r with
        | d r =>
          refine ⟨_, rfl, fun dx n => ?_⟩
          have gw : Grow G1 H1 (upd G1 dx (.xd [(f, v)])) (upd H1 dx (.xd [(f, v)])) := Grow.one s1.cr.sub n _
          exact q ι1 _ _ σ _ _ (s1.grow gw) (x1.trans (s1.cr.growE gw)) ⟨rfl, .inr ⟨dx, _, rfl, upd_same, .cons (r.mono gw.g) .nil⟩⟩
    · cases e2
  · exact oa ι M Γ σ G H _ _ s e1 (SPost.x q x' M1 e2)
end
end DL

set_option Elab.async false
set_option linter.all false
set_option maxRecDepth 100000
set_option autoImplicit false
set_option maxHeartbeats 4000000
/-! constants of the module: ints, texts, bools, None, tuples of such -/
namespace DL
open PySem PySem.Spec PyProof.Rows L2
mutual
/-- a value of the written part is this data -/
def isD (K : PySem.W.Frag) : D → Value → Bool
  | .non, .none => true
  | .bl b, .bool c => b == c
  | .int i, .int j _ => decide (i = j)
  | .str x, .str y _ => decide (x = y)
  | .tup ds, .ref a => match K.lookup a with
    | some ⟨.type "tuple", _, .seq its _, _⟩ => decide (its.size ≤ sizeLine) && isDs K ds its.toList
    | _ => false
  | _, _ => false
def isDs (K : PySem.W.Frag) : List D → List Value → Bool
  | [], [] => true
  | d :: ds, v :: vs => isD K d v && isDs K ds vs
  | _, _ => false
end
section
variable [PWd]
variable {K : PySem.W.Frag}
mutual
theorem isD_ok : ∀ {d : D} {u : Value}, isD K d u = true → ∃ v, RelV v u ∧ ∀ G, Rep K G v d
  | d, u, h => by
    unfold isD at h
    split at h
    · exact ⟨.non, rfl, fun _ => .non⟩
    · cases (beq_iff_eq.mp h)
      exact ⟨.bl _, rfl, fun _ => .bl _⟩
    · cases (of_decide_eq_true h)
      exact ⟨.int _, ⟨_, rfl⟩, fun _ => .int _⟩
    · cases (of_decide_eq_true h)
      exact ⟨.str _, ⟨_, rfl⟩, fun _ => .str _⟩
    · rename_i ds a
      split at h
      · rename_i its n sl lk
        obtain ⟨h1, h2⟩ := Bool.and_eq_true_iff.mp h
        obtain ⟨vs, rv, rp⟩ := isDs_ok h2
        exact ⟨.ref a, rfl, fun G => .tup (.inr ⟨_, its, n, lk, rfl, rfl, of_decide_eq_true h1, rv⟩) (rp G)⟩
      · cases h
    · cases h
theorem isDs_ok : ∀ {ds : List D} {us : List Value}, isDs K ds us = true → ∃ vs, Vals vs us ∧ ∀ G, RepL K G vs ds
  | [], [], _ => ⟨[], .nil, fun _ => .nil⟩
  | d :: ds, u :: us, h => by
    unfold isDs at h
    obtain ⟨h1, h2⟩ := Bool.and_eq_true_iff.mp h
    obtain ⟨v, r1, p1⟩ := isD_ok h1
    obtain ⟨vs, r2, p2⟩ := isDs_ok h2
    exact ⟨v :: vs, .cons r1 r2, fun G => .cons (p1 G) (p2 G)⟩
  | [], _ :: _, h => by unfold isDs at h; cases h
  | _ :: _, [], h => by unfold isDs at h; cases h
end
variable {P : Program} {w : World} {mg : Str → Option Value} {base : Heap} {Z : Addr → Prop} {X : Cx}
variable {N : List Str} {sc : Scope} {Wx : WX} {k : Nat} {pos : Pos}
theorem de_gD (C : Ctx P w K mg base X N sc Wx k) {x : Str} {d : D} (hm : ∃ u, mg x = some u ∧ isD K d u = true) (hg : sc.names.lookup x = some .globalImplicit := by rfl) (hd : (x == ("__debug__" : Str)) = false := by decide) : DE X Wx Z (.Name x pos) (eC d) := by
  obtain ⟨u, hm, h⟩ := hm
  obtain ⟨v, r, p⟩ := isD_ok h
  exact de_glob C hm r p hg hd
end
end DL

set_option Elab.async false
set_option linter.all false
set_option maxRecDepth 100000
set_option autoImplicit false
set_option maxHeartbeats 4000000
/-! [a, .., *e], (a, .., *e) -/
namespace DL
open PySem PySem.Spec PyProof.Rows L2
section
variable [PWd]
variable {K : PySem.W.Frag} {P : Program} {w : World} {mg : Str → Option Value} {base : Heap} {Z : Addr → Prop} {X : Cx}
variable {N : List Str} {sc : Scope} {Wx : WX} {k : Nat} {e : Expr} {es : List Expr} {f : EF} {af : AF} {p pos : Pos}
/-- arguments, of which the last may be starred -/
structure DAs (X : Cx) (Wx : WX) (Z : Addr → Prop) (es : List Expr) (af : AF) : Prop where
  ex : ∃ t, PA X es t ∧ AOk X Wx Z t af
/-- the items of a list or a tuple -/
def starsD : D → Option (List D)
  | .lst xs => some xs
  | .rol xs => some xs
  | .tup xs => some xs
  | _ => none
def aStar (f : EF) : AF := fun Γ M => bnd (f Γ M) fun w M1 => ((rd M1 w).bind starsD).map fun ds => .ok (ds.map .d) M1
theorem rws_of {ι : List Addr} {G : Hp} : ∀ {vs : List V} {ds : List D}, RepL K G vs ds → RWs K ι G vs (ds.map .d)
  | _, _, .nil => .nil
  | _, _, .cons r t => .cons (.d r) (rws_of t)
theorem das_star (he : DE X Wx Z e f) (hs : starEach [.Starred e p] X.env = (true, eval e X.env) :: starEach [] X.env := by rfl) : DAs X Wx Z [.Starred e p] (aStar f) := by
  obtain ⟨te, pe, oe⟩ := he
  refine ⟨_, StX.pa_star pe pa_nil hs, fun ι M Γ σ G H out Q s q0 q => ?_⟩
  refine oe.then s q0 (APost.x q) fun w M1 e1 ι1 G1 H1 v s1 x1 r1 => ?_
  obtain ⟨ds, h1, rfl⟩ := Option.map_eq_some_iff.mp e1
  obtain ⟨d, h2, h3⟩ := Option.bind_eq_some_iff.mp h1
  have rb := s1.cr.rb r1 h2
  have sm := s1.cr.sub
  have go : ∀ {a : Addr} {vs : List V}, (SqT X.K H1 a vs ∨ SqL X.K H1 a vs) → RepL X.K G1 vs ds → v = .ref a → ∃ p xs, v = V.ref p ∧ (SqT X.K H1 p xs ∨ SqL X.K H1 p xs) ∧ L2.tNil σ H1 fun ys H2 => Q (xs ++ ys) H2 := fun {a vs} hq rl hv =>
    ⟨a, vs, hv, hq, by
      show Q (vs ++ []) H1
      rw [List.append_nil]
      exact q ι1 G1 H1 vs s1 x1 (rws_of rl)⟩
  cases d with
  | lst xs => cases h3; obtain ⟨a, vs, e, h, r⟩ := rb.asL sm; exact go (.inr (SqL.of h)) r e
  | rol xs => cases h3; obtain ⟨a, vs, e, h, r⟩ := rb.asR sm; exact go (.inr h) r e
  | tup xs => cases h3; obtain ⟨a, vs, e, h, r⟩ := rb.asT sm; exact go (.inl h) r e
  | _ => cases h3
theorem das_cons (ha : DE X Wx Z e f) (hr : DAs X Wx Z es af) (hs : starEach (e :: es) X.env = (false, eval e X.env) :: starEach es X.env := by rfl) : DAs X Wx Z (e :: es) (aCons f af) := by
  obtain ⟨ta, pa, oa⟩ := ha
  obtain ⟨tr, pr, or_⟩ := hr
  refine ⟨_, pa_cons pa pr hs, fun ι M Γ σ G H out Q s q0 q => ?_⟩
  refine oa.then s q0 (APost.x q) fun w M1 e1 ι1 G1 H1 v s1 x1 r1 => ?_
  refine or_.then s1 e1 (APost.x (q.ext x1)) fun ws M2 e2 _ ι2 G2 H2 vs s2 x2 r2 => ?_
  cases e2
  exact q ι2 G2 H2 (v :: vs) s2 (x1.trans x2) (.cons (x2.rw r1) r2)
def eTupS (af : AF) : EF := fun Γ M => bnd (af Γ M) fun ws M1 => (allD ws).bind fun ds => if ds.length ≤ sizeLine then some (.ok (.d (.tup ds)) M1) else none
def eLstS (af : AF) : EF := fun Γ M => bnd (af Γ M) fun ws M1 => (allD ws).bind fun ds => if ds.length ≤ sizeLine then some (.ok (.d (.lst ds)) M1) else none
theorem de_tupS {x1} (ha : DAs X Wx Z es af) : DE X Wx Z (.Tuple es x1 pos) (eTupS af) := by
  obtain ⟨ta, pa, oa⟩ := ha
  refine ⟨_, pe_tup pa, fun ι M Γ σ G H out Q s e q => ?_⟩
  refine oa.then s e (EPost.x q) fun ws M1 e1 e0 ι1 G1 H1 vs s1 x1 r1 => ?_
  obtain ⟨ds, h1, h2⟩ := Option.bind_eq_some_iff.mp e1
  have rl := allD_rep r1 h1
  by_cases hz : ds.length ≤ sizeLine
  · rw [if_pos hz] at h2
    cases h2
    refine ⟨by rw [rl.length]; exact hz, fun p hp => ?_⟩
    have gw : Grow G1 H1 (upd G1 p (.tup vs)) (upd H1 p (.tup vs)) := Grow.one s1.cr.sub hp _
    exact q ι1 _ _ _ (s1.grow gw) (x1.trans (s1.cr.growE gw)) (.d (.tup (SqT.of upd_same) (rl.mono gw.g)))
  · rw [if_neg hz] at h2
    cases h2
theorem de_lstS (ha : DAs X Wx Z es af) : DE X Wx Z (.List es pos) (eLstS af) := by
  obtain ⟨ta, pa, oa⟩ := ha
  refine ⟨_, pe_lst pa, fun ι M Γ σ G H out Q s e q => ?_⟩
  refine oa.then s e (EPost.x q) fun ws M1 e1 e0 ι1 G1 H1 vs s1 x1 r1 => ?_
  obtain ⟨ds, h1, h2⟩ := Option.bind_eq_some_iff.mp e1
  have rl := allD_rep r1 h1
  by_cases hz : ds.length ≤ sizeLine
  · rw [if_pos hz] at h2
    cases h2
    refine ⟨by rw [rl.length]; exact hz, fun p hp => ?_⟩
    have gw : Grow G1 H1 (upd G1 p (.lst vs)) (upd H1 p (.lst vs)) := Grow.one s1.cr.sub hp _
    exact q ι1 _ _ _ (s1.grow gw) (x1.trans (s1.cr.growE gw)) (.d (.lst upd_same (rl.mono gw.g)))
  · rw [if_neg hz] at h2
    cases h2
end
end DL

set_option Elab.async false
set_option linter.all false
set_option maxRecDepth 100000
set_option autoImplicit false
set_option maxHeartbeats 4000000
/-! xs.index(y), a list of texts -/
namespace DL
open PySem PySem.Spec PyProof.Rows L2
/-- the first place -/
def ixOf (y : Str) : List Str → Option Nat
  | [] => none
  | x :: r => if x == y then some 0 else (ixOf y r).map (· + 1)
theorem ixOf_ok {y : Str} : ∀ {l : List Str} {j : Nat}, ixOf y l = some j → (∃ z, l[j]? = some z ∧ (z == y) = true) ∧ ∀ (m : Nat) (z : Str), m < j → l[m]? = some z → (z == y) = false
  | [], j, h => by cases h
  | x :: r, j, h => by
    unfold ixOf at h
    split at h
    · cases h
      rename_i e
      exact ⟨⟨x, rfl, e⟩, fun m z hm => absurd hm (Nat.not_lt_zero m)⟩
    · rename_i e
      obtain ⟨i, hi, rfl⟩ := Option.map_eq_some_iff.mp h
      obtain ⟨⟨z, h1, h2⟩, h3⟩ := ixOf_ok hi
      refine ⟨⟨z, by simpa using h1, h2⟩, fun m z' hm hz => ?_⟩
      cases m with
      | zero =>
        cases (show some x = some z' from hz)
        exact eq_false_of_ne_true e
      | succ m => exact h3 m z' (Nat.lt_of_succ_lt_succ hm) (by simpa using hz)
def indexD : D → List D → Option D
  | .lst xs, [.str y] => (strsO xs).bind fun ss => Option.map (fun j : Nat => D.int (j : Int)) (ixOf y ss)
  | _, _ => none
section
variable [PWd]
variable {K Kc : PySem.W.Frag} {P : Program} {w : World} {mg : Str → Option Value} {base : Heap} {Z : Addr → Prop} {X : Cx}
variable {N : List Str} {sc : Scope} {Wx : WX} {k : Nat} {o e : Expr} {f : EF} {af : AF} {apos cpos : Pos}
theorem m_index : MtD X (rIndex X.K) indexD := fun G H x a xs as d Q sm ra rs e q => by
  unfold indexD at e
  split at e
  · rename_i ys y
    obtain ⟨ss, h1, e⟩ := Option.bind_eq_some_iff.mp e
    obtain ⟨j, h2, rfl⟩ := Option.map_eq_some_iff.mp e
    obtain ⟨v, rfl, r⟩ := rb1 rs
    obtain ⟨p, vs, rfl, h3, rl⟩ := ra.asL sm
    have e1 := rl.strs h1
    subst e1
    rw [r.str]
    obtain ⟨⟨z, z1, z2⟩, z3⟩ := ixOf_ok h2
    refine ⟨p, _, .str y, j, .str z, rfl, rfl, SqL.of h3, rfl, List.all_eq_true.mpr fun u hu => ?_, by rw [List.getElem?_map, z1]; rfl, z2, fun m z' hm hz => ?_, q _ G H (Grow.refl sm) (.int _)⟩
    · obtain ⟨s, _, rfl⟩ := List.mem_map.mp hu
      rfl
    · rw [List.getElem?_map] at hz
      obtain ⟨s, hs, rfl⟩ := Option.map_eq_some_iff.mp hz
      exact z3 m s hm hs
  · cases e
theorem de_index (ho : DE X Wx Z o f) (ha : DA X Wx Z [e] af) (hbase : attributeBase o "index" X.env (eval o X.env) = eval o X.env := by rfl)
    (hfew : ((backTo cpos (starEach [e] X.env)).all (fun x => !x.1) && (backToKw cpos (keywordEach [] X.env)).all (fun x => x.1.isSome)
      && decide (([e] : List Expr).length + ([] : List Keyword).length + (if ([] : List Keyword).isEmpty then 0 else 1) < 30)) = true := by rfl)
    (hline : (apos.endLine == cpos.line) = true := by rfl) (hst : starEach [e] X.env = (false, eval e X.env) :: starEach [] X.env := by rfl) (hplain : (backTo cpos (starEach [] X.env)).any (·.1) = false := by rfl) :
    DE X Wx Z (.Call (.Attribute o "index" apos) [e] [] cpos) (eM "list" indexD f af) :=
  de_m m_index ho ha PySem.F.plainAttrs_list PySem.F.slot_list_index PySem.F.type_list_index mt_index hbase hfew hline hst hplain
end
end DL

set_option Elab.async false
set_option linter.all false
set_option maxRecDepth 100000
set_option autoImplicit false
set_option maxHeartbeats 4000000
/-! own exceptions as values: making, isinstance, fields; a display's cell as data at once -/
namespace DL
open PySem PySem.Spec PyProof.Rows L2
section
variable [PWd]
variable {K : PySem.W.Frag} {G G' H H' : Hp} {P : Program} {w : World} {mg : Str → Option Value} {base : Heap} {Z : Addr → Prop} {X : Cx} {ι : List Addr} {M : Store}
variable {N : List Str} {sc : Scope} {Wx : WX} {k : Nat} {e : Expr} {es : List Expr} {f : EF} {af : AF} {p pos pos' : Pos} {x fl : Str}
/-! ### making -/
def eMkX (c : Str) (f : EF) : EF := fun Γ M => bnd (f Γ M) fun _ M1 => some (.ok (.d (.exv c [])) M1)
theorem de_mkX (C : Ctx P w K mg base X N sc Wx k) (o : OwnX K mg x) (he : DE X Wx Z e f) (hg : sc.names.lookup x = some .globalImplicit := by rfl) (hdb : (x == ("__debug__" : Str)) = false := by decide)
    (hs : starEach [e] X.env = (false, eval e X.env) :: starEach [] X.env := by rfl) : DE X Wx Z (.Call (.Name x p) [e] [] pos) (eMkX x f) := by
  obtain ⟨te, pe, oe⟩ := he
  refine ⟨_, pe_exc1 PySem.F.excBase_ValueError (by rw [C.hK]; exact o.ex) (C.m o.at_) (C.kp o.kp) (C.g hg) pe hs hdb, fun ι M Γ σ G H out Q s e1 q => ?_⟩
  refine oe.then s e1 (EPost.x q) fun w1 M1 e2 ι1 G1 H1 v s1 x1 r1 a ha => ?_
  cases e2
  have gw : Grow G1 H1 (upd G1 a (ExO (.ref (He.ga K x)) a)) (upd H1 a (ExO (.ref (He.ga K x)) a)) := Grow.one s1.cr.sub ha _
  exact q ι1 _ _ _ (s1.grow gw) (x1.trans (s1.cr.growE gw)) (.d (.exn (by rw [upd_same, C.hK])))
def eMkF (c f : Str) (g : AF) : EF := fun Γ M => bnd (g Γ M) fun ws M1 => match ws with
  | [.d d] => some (.ok (.d (.exv c [(f, d)])) M1)
  | _ => none
theorem de_mkF (C : Ctx P w K mg base X N sc Wx k) (o : OwnF P w K mg base x fl) (hk : 2 ≤ k) (ha : DA X Wx Z [e] af) (hg : sc.names.lookup x = some .globalImplicit := by rfl) (hdb : (x == ("__debug__" : Str)) = false := by decide)
    (se : starEach [e] X.env = (false, eval e X.env) :: starEach [] X.env := by rfl) (sn : (backTo pos (starEach [] X.env)).any (·.1) = false := by rfl) :
    DE X Wx Z (.Call (.Name x p) [e] [] pos) (eMkF x fl af) := by
  obtain ⟨⟨ta, pa, oa⟩, len⟩ := ha
  obtain ⟨⟨fI, fd, tl, newId, arg, eb, T, F1, bd⟩, at_⟩ := o
  have hg := C.g hg
  have room := C.room
  have gd := C.gd
  obtain ⟨rfl, rfl, rfl, rfl, rfl, _⟩ := C
  refine ⟨_, pe_own_fs eb T F1 (room.mono hk) gd bd hg at_ pa hdb se sn, fun ι M Γ σ G H out Q s e q => ?_⟩
  refine oa.then s e (EPost.x q) fun ws M1 e1 e0 ι1 G1 H1 vs s1 x1 r1 => ?_
  split at e1
  · cases e1
    cases r1 with
    | @cons v _ _ _ r t =>
      cases t
      cases r with
      | d r =>
        refine ⟨_, rfl, fun a dx na nd ne => ?_⟩
        have g1 : Grow G1 H1 (upd G1 dx (exd dx [(fl, v)])) (upd H1 dx (exd dx [(fl, v)])) := Grow.one s1.cr.sub nd _
        have g2 := g1.new (p := a) (by rw [upd_ne ne.symm]; exact na) (exo a (He.ga X.K x) (some dx))
        have r2 := r.mono g2.g
        exact q ι1 _ _ _ (s1.grow g2) (x1.trans (s1.cr.growE g2)) (.d (.exd (dx := dx) (fs := [(fl, v)]) upd_same (by rw [upd_ne ne, upd_same]) (.cons r2 .nil)))
  · cases e1
/-! ### isinstance(e, C) -/
/-- what the head tells of an own exception class whose instances are asked -/
structure ExI (K : PySem.W.Frag) (C : Addr) : Prop where
  cl : (PySem.W.clsIn K C).isSome = true
  hg : PySem.W.findIn K (.ref C) "__getattribute__" = some (some (.builtin "BaseException.__getattribute__"))
  hk : PySem.W.findIn K (.ref C) "__getattr__" = some none
  hs : PySem.W.subIn K (.ref C) (.type "BaseException") = some true
  ha : PySem.W.findIn K (.ref C) "__class__" = some (some (.builtin "object.__class__"))
  hn : PySem.W.specialIn K (.builtin "object.__class__") "__get__" = some (some (.builtin "getset_descriptor.__get__"))
  ht : PySem.W.takesIn K (.builtin "object.__class__") = some true
  hm : PySem.W.mroIn K C (.type "object") = some true
/-- an exception object that stands still -/
def ExH (H : Hp) (a C : Addr) : Prop := H a = some (ExO (.ref C) a) ∨ ∃ dx fs, H a = some (exo a C (some dx)) ∧ H dx = some (exd dx fs)
theorem ExH.inst {C a : Addr} {h : Heap} {P : Program} {w : World} (e : ExH H a C) (ok : HOk P w H h) : ∃ ox od, PySem.W.InstAt h a ox C od := by
  rcases e with e | ⟨dx, fs, e1, e2⟩
  · obtain ⟨⟨oe, vs, g, z, d, _⟩, _⟩ := ok a _ e
    exact ⟨oe, none, g, z.1, by unfold PySem.W.notCls; rw [d], by rw [z.2]; trivial⟩
  · obtain ⟨t1, g⟩ := exo_at ok e1
    obtain ⟨mA, ⟨o, es, ep, g2, _⟩, _⟩ := exd_at ok e2
    exact ⟨_, some o, g, rfl, rfl, g2⟩
def rIsX (K : PySem.W.Frag) : List V → Hp → VK → Prop := fun xs H Q => ∃ (a C : Addr) (c : V) (cv : Value) (b : Bool), xs = [.ref a, c] ∧ ExH H a C ∧ ExI K C ∧ (∀ u, RelV c u → u = cv) ∧ PySem.W.kitOne K (.ref C) cv = some b ∧ Q (.bl b) H
theorem call_isX : CallR X (.builtin "isinstance") (rIsX X.K) := by
  intro pins s σ H xs us Q I r h
  obtain ⟨a, C, c, cv, b, rfl, eh, T, hcv, e, q⟩ := h
  cases r with
  | cons rx rr =>
    cases rr with
    | cons rt rr =>
      cases rr
      cases rx
      cases hcv _ rt
      obtain ⟨ox, od, J⟩ := eh.inst I.hok
      exact PySem.W.kia_one (PySem.W.kitx_exc T.cl T.hg T.hk T.hs T.ha T.hn T.ht T.hm) I.kIn J e (fun z => nomatch z) fun tk => ⟨.bl b, H, I.kept (t' := tk) fun _ _ z => z, rfl, q⟩
/-- which own classes and which built-in ones an own exception class is below; of which ones that is asked -/
abbrev XB := List (Str × List Str × List String)
def isXO (xb : XB) (xo : List Str) (xt : List String) : List D → Option D
  | [.exv c _, .cls y] => (xb.lookup c).bind fun z => if xo.contains y = true then some (.bl (z.1.contains y)) else none
  | [.exv c _, .ty n] => (xb.lookup c).bind fun z => if xt.contains n = true then some (.bl (z.2.contains n)) else none
  | _ => none
def exiB (K : PySem.W.Frag) (C : Addr) : Bool := (PySem.W.clsIn K C).isSome && (decide (PySem.W.findIn K (.ref C) "__getattribute__" = some (some (.builtin "BaseException.__getattribute__"))) && (decide (PySem.W.findIn K (.ref C) "__getattr__" = some none) &&
  (decide (PySem.W.subIn K (.ref C) (.type "BaseException") = some true) && (decide (PySem.W.findIn K (.ref C) "__class__" = some (some (.builtin "object.__class__"))) && (decide (PySem.W.specialIn K (.builtin "object.__class__") "__get__" = some (some (.builtin "getset_descriptor.__get__"))) &&
  (decide (PySem.W.takesIn K (.builtin "object.__class__") = some true) && decide (PySem.W.mroIn K C (.type "object") = some true)))))))
theorem exiB_ok {C : Addr} (h : exiB K C = true) : ExI K C := by
  unfold exiB at h
  simp only [Bool.and_eq_true, decide_eq_true_eq] at h
  exact ⟨h.1, h.2.1, h.2.2.1, h.2.2.2.1, h.2.2.2.2.1, h.2.2.2.2.2.1, h.2.2.2.2.2.2.1, h.2.2.2.2.2.2.2⟩
/-- the head's look -/
def isxB (xb : XB) (xo : List Str) (xt : List String) (K : PySem.W.Frag) : Bool := xb.all fun z => exiB K (He.ga K z.1) && (xo.all (fun y => decide (PySem.W.kitOne K (.ref (He.ga K z.1)) (.ref (He.ga K y)) = some (z.2.1.contains y))) &&
  xt.all fun n => decide (PySem.W.kitOne K (.ref (He.ga K z.1)) (.type n) = some (z.2.2.contains n)))
theorem RB.asX (sm : Same G H) {v : V} {c : Str} {ds : List (Str × D)} (r : RB K G H v (.exv c ds)) : ∃ a, v = .ref a ∧ ExH H a (He.ga K c) := by
  cases r with
  | rep r => cases r with
    | exn h => exact ⟨_, rfl, .inl (sm _ _ h)⟩
    | exd h1 h2 _ => exact ⟨_, rfl, .inr ⟨_, _, sm _ _ h1, sm _ _ h2⟩⟩
theorem RB.asC {v : V} {c : Str} (r : RB K G H v (.cls c)) : v = .ref (He.ga K c) := by
  cases r with
  | rep r => cases r; rfl
theorem lookup_mem {α : Type} {c : Str} {z : α} : ∀ {l : List (Str × α)}, l.lookup c = some z → (c, z) ∈ l
  | [], h => by cases h
  | (d, y) :: r, h => by
    rw [List.lookup_cons] at h
    split at h
    · rename_i e
      cases h
      rw [eq_of_beq e]
      exact List.mem_cons_self ..
    · exact List.mem_cons_of_mem _ (lookup_mem h)
theorem s_isX {xb : XB} {xo : List Str} {xt : List String} (h : isxB xb xo xt X.K = true) : CallS X (rIsX X.K) (isXO xb xo xt) := fun G H xs as d Q sm rx e q => by
  unfold isXO at e
  split at e
  · obtain ⟨z, h1, h2⟩ := Option.bind_eq_some_iff.mp e
    have fact := List.all_eq_true.mp h _ (lookup_mem h1)
    simp only [Bool.and_eq_true] at fact
    split at h2
    · rename_i hy
      cases h2
      obtain ⟨v, v', rfl, r, r'⟩ := rb2 rx
      obtain ⟨a, rfl, eh⟩ := r.asX sm
      rw [r'.asC]
      exact ⟨a, _, _, _, _, rfl, eh, exiB_ok fact.1, fun u ru => ru, of_decide_eq_true (List.all_eq_true.mp fact.2.1 _ (List.contains_iff_mem.mp hy)), q _ G H (Grow.refl sm) (.bl _)⟩
    · cases h2
  · obtain ⟨z, h1, h2⟩ := Option.bind_eq_some_iff.mp e
    have fact := List.all_eq_true.mp h _ (lookup_mem h1)
    simp only [Bool.and_eq_true] at fact
    split at h2
    · rename_i hy
      cases h2
      obtain ⟨v, v', rfl, r, r'⟩ := rb2 rx
      obtain ⟨a, rfl, eh⟩ := r.asX sm
      rw [r'.ty]
      exact ⟨a, _, _, _, _, rfl, eh, exiB_ok fact.1, fun u ru => ru, of_decide_eq_true (List.all_eq_true.mp fact.2.2 _ (List.contains_iff_mem.mp hy)), q _ G H (Grow.refl sm) (.bl _)⟩
    · cases h2
  · cases e
def isXA (xb : XB) (xo : List Str) (xt : List String) : List D → Option D := orC isaD (isXO xb xo xt)
theorem de_isX (C : Ctx P w K mg base X N sc Wx k) {e2 : Expr} {xb : XB} {xo : List Str} {xt : List String} (h : isxB xb xo xt K = true) (hm : mg "isinstance" = none) (ha : DA X Wx Z [e, e2] af) (hg : sc.names.lookup ("isinstance" : Str) = some .globalImplicit := by rfl)
    (he : starEach [e, e2] X.env = (false, eval e X.env) :: starEach [e2] X.env := by rfl) (hpl : (backTo pos (starEach [e2] X.env)).any (·.1) = false := by rfl) :
    DE X Wx Z (.Call (.Name "isinstance" p) [e, e2] [] pos) (eCall (isXA xb xo xt) af) := de_bif C (CallR.or call_isi call_isX) (CallS.or s_isa (s_isX (by rw [C.hK]; exact h))) hm ha boot_isinstance hg (by decide) (by decide) he hpl
/-- an own class's name -/
theorem de_cls (C : Ctx P w K mg base X N sc Wx k) (hm : mg x = some (.ref (He.ga K x))) (hg : sc.names.lookup x = some .globalImplicit := by rfl) (hd : (x == ("__debug__" : Str)) = false := by decide) : DE X Wx Z (.Name x pos) (eC (.cls x)) :=
  de_glob (v := .ref (He.ga K x)) C hm rfl (fun _ => .cls x) hg hd
/-! ### e.f of such an exception -/
def tFx (K : PySem.W.Frag) (f : Str) (te : TE) : TE := fun σ H Q => te σ H fun x H1 => ∃ (a C dx : Addr) (fs : List (Str × V)) (v : V), x = .ref a ∧ H1 a = some (exo a C (some dx)) ∧ H1 dx = some (exd dx fs) ∧ XfC K C ∧ PySem.W.findIn K (.ref C) f = some none ∧ fs.lookup f = some v ∧ Q v H1
theorem pe_fx {te : TE} {n : Str} (he : PE X e te) (hb : attributeBase e n X.env (eval e X.env) = eval e X.env := by rfl) : PE X (.Attribute e n pos) (tFx X.K n te) := by
  refine ⟨fun pins s σ H Q I h => ?_⟩
  refine attr_of hb (thn (he.run pins s σ H _ I h) fun u s1 hh => ?_)
  obtain ⟨x, H1, I1, rx, a, C, dx, fs, v, ex, e1, e2, T, no, l, q⟩ := hh
  subst ex
  obtain rfl : u = Value.ref a := rx
  obtain ⟨t1, g⟩ := exo_at I1.hok e1
  obtain ⟨mA, hns, hr⟩ := exd_at I1.hok e2
  obtain ⟨od, ho, hl⟩ := lookIn_ns hns
  obtain ⟨u, hu, ru⟩ := RelO.some_of (v := v) (o := mA n) (by rw [← l]; exact hr n)
  have J : PySem.W.InstAt s1.heap a _ C (some od) := ⟨g, rfl, rfl, ho⟩
  exact HandSPX.exc_get I1.kIn J T.ga T.gg T.exC (PySem.W.findObj_own T.hdC no rfl (by rw [hl, hu])) (handed_of ru) ⟨v, H1, I1.tok _, ru, q⟩
/-- which fields may be read -/
abbrev XF := List (Str × Str)
def fxB (xf : XF) (K : PySem.W.Frag) : Bool := xf.all fun z => xfB K (He.ga K z.1) && decide (PySem.W.findIn K (.ref (He.ga K z.1)) z.2 = some none)
def fxD (xf : XF) (f : Str) : D → Option D
  | .exv c fs => if xf.contains (c, f) = true then fs.lookup f else none
  | _ => none
def eFx (xf : XF) (f : Str) (g : EF) : EF := eUn (fxD xf f) g
theorem repF_lookup {f : Str} {d : D} : ∀ {vs : List (Str × V)} {ds : List (Str × D)}, RepF K G vs ds → ds.lookup f = some d → ∃ v, vs.lookup f = some v ∧ Rep K G v d
  | _, _, .nil, h => by cases h
  | _, _, .cons (k := k) r t, h => by
    rw [List.lookup_cons] at h ⊢
    split at h
    · cases h
      exact ⟨_, rfl, r⟩
    · exact repF_lookup t h
theorem de_fx (C : Ctx P w K mg base X N sc Wx k) {xf : XF} {n : Str} (h : fxB xf K = true) (he : DE X Wx Z e f) (hb : attributeBase e n X.env (eval e X.env) = eval e X.env := by rfl) : DE X Wx Z (.Attribute e n pos) (eFx xf n f) := by
  obtain ⟨te, pe, oe⟩ := he
  refine ⟨_, pe_fx pe hb, fun ι M Γ σ G H out Q s e1 q => ?_⟩
  refine oe.then s e1 (EPost.x q) fun w1 M1 e2 ι1 G1 H1 v s1 x1 r1 => ?_
  obtain ⟨d, h1, rfl⟩ := Option.map_eq_some_iff.mp e2
  obtain ⟨da, h2, h3⟩ := Option.bind_eq_some_iff.mp h1
  have rb := s1.cr.rb r1 h2
  unfold fxD at h3
  split at h3
  · split at h3
    · rename_i hc
      have fact := List.all_eq_true.mp h _ (List.contains_iff_mem.mp hc)
      simp only [Bool.and_eq_true, decide_eq_true_eq] at fact
      rw [← C.hK] at fact
      cases rb with
      | rep r => cases r with
        | exn _ => cases h3
        | exd g1 g2 rf =>
          obtain ⟨u, l, ru⟩ := repF_lookup rf h3
          exact ⟨_, _, _, _, u, rfl, s1.cr.sub _ _ g1, s1.cr.sub _ _ g2, xfB_ok fact.1, fact.2, l, q ι1 G1 H1 u s1 x1 (.d ru)⟩
    · cases h3
  · cases h3
/-! ### a cell that is data at once -/
theorem CRel.frzR (c : CRel K Z ι M G H) {i : Nat} {v : V} {d : D} (r : RW K ι G v (.r i)) (h : rdC M[i]? = some d) {Q : VK}
    (q : ∀ G' H', CRel K Z ι (M.set i .dead) G' H' → Same G G' → (∀ a, Z a → H' a = H a) → Rep K G' v d → Q v H') : frzQ Q v H := by
  cases r with
  | @r a i hi =>
    cases e : M[i]? with
    | none => rw [e] at h; cases h
    | some y =>
      rw [e] at h
      have ok := c.ct i a y hi e
      have live : M[i]? ≠ some Cell.dead := fun z => by rw [z] at e; cases e; cases h
      generalize ho : H a = o at ok
      cases ok with
      | dead => cases h
      | lst r =>
        cases h
        obtain ⟨c', sm⟩ := c.freeze hi ho
        exact .inl (q _ _ c' (sm live) (fun _ _ => rfl) (.lst upd_same (r.mono (sm live))))
      | dic r =>
        cases h
        refine .inr ⟨a, _, rfl, ho, trivial, fun od => ?_⟩
        obtain ⟨c', sm⟩ := c.freezeD (o := .frz od _) hi ho live
        exact q _ _ c' sm (fun b hb => upd_ne fun z => c.dj a (List.mem_of_getElem? hi) (by rw [← z]; exact hb)) (.dic upd_same (r.mono sm))
      | ins r =>
        cases h
        obtain ⟨c', sm⟩ := c.freeze hi ho
        exact .inl (q _ _ c' (sm live) (fun _ _ => rfl) (.ins upd_same (r.mono (sm live))))
def eFz (f : EF) : EF := fun Γ M => bnd (f Γ M) fun w M1 => match w with
  | .r j => (rdC M1[j]?).map fun d => .ok (.d d) (M1.set j .dead)
  | .d d => some (.ok (.d d) M1)
theorem de_fz (he : DE X Wx Z e f) : DE X Wx Z e (eFz f) := by
  obtain ⟨te, pe, oe⟩ := he
  refine ⟨_, pe_frz pe, fun ι M Γ σ G H out Q s e1 q => ?_⟩
  refine oe.then s e1 (fun x M' ex => by subst ex; exact q) fun w1 M1 e2 ι1 G1 H1 v s1 x1 r1 => ?_
  cases w1 with
  | d d => cases e2; exact .inl (q ι1 G1 H1 v s1 x1 r1)
  | r j =>
    obtain ⟨d, h1, rfl⟩ := Option.map_eq_some_iff.mp e2
    refine s1.cr.frzR r1 h1 fun G2 H2 c2 sm zs r2 => ?_
    have x2 : Ext Z ι1 G1 H1 ι1 G2 H2 := ⟨⟨[], by simp⟩, sm, zs⟩
    exact q ι1 G2 H2 v (s1.at x2 c2) (x1.trans x2) (.d r2)
end
end DL

set_option Elab.async false
set_option linter.all false
set_option maxRecDepth 100000
set_option autoImplicit false
set_option maxHeartbeats 4000000
/-! what a law's head is asked: facts as looks at the written part, sys.modules among it -/
namespace DL
open PySem PySem.Spec PyProof.Rows L2 He PySem.DLX
abbrev FaQ := PySem.W.Frag → Bool
def obsQ (fa : List FaQ) (fn : List DefD) (K : PySem.W.Frag) : AlD := ((fa.all fun f => f K) && fn.all fun d => d.ok K, fn.map fun d => fnW K d.at_)
def SaysQ (fa : List FaQ) (fn : List DefD) (K : PySem.W.Frag) : Prop := obsQ fa fn K = He.valD fn
def obsQG (n : Nat) (fa : List FaQ) (fn : List DefD) (g : Addr → Option Obj) : AlD := obsQ fa fn (frG g (sysModules :: asD g n))
def hookQ (n : Nat) (fa : List FaQ) (fn : List DefD) : PySem.W.Hook where
  α := AlD
  obs := fun s => obsQG n fa fn s.heap.get?
  val := fun _ => He.valD fn
  says := fun _ h => ∃ K : PySem.W.Frag, K.In h ∧ SaysQ fa fn K
  of := fun _ _ e => ⟨_, frG_in, e⟩
  keeps := fun _ _ _ ⟨K, hK, c⟩ k => ⟨K, PySem.W.Frag.In.keeps hK k, c⟩
theorem obsQG_eq {n : Nat} {fa : List FaQ} {fn : List DefD} {g : Addr → Option Obj} {s : Shared} (h : ∀ a, g a = s.heap.get? a) : obsQG n fa fn g = (hookQ n fa fn).obs s := by
  have e : g = s.heap.get? := funext h
  rw [e] <;> rfl
section
variable {fa : List FaQ} {fn : List DefD} {K : PySem.W.Frag}
theorem SaysQ.fact (c : SaysQ fa fn K) (i : Nat) {f : FaQ} (h : fa[i]? = some f := by rfl) : f K = true := by
  have c1 := (ba (show ((fa.all fun f => f K) && fn.all fun d => d.ok K) = true from congrArg (fun z : AlD => z.1) c)).1
  exact List.all_eq_true.mp c1 f (List.mem_of_getElem? h)
theorem SaysQ.def_ (c : SaysQ fa fn K) (i : Nat) {d : DefD} (h : fn[i]? = some d := by rfl) : ∃ fd, FunD K d.name d.qual d.params d.body d.scope (d.dvs K) (d.kws K) (fAd K d.at_) fd := by
  have c2 := (ba (show ((fa.all fun f => f K) && fn.all fun d => d.ok K) = true from congrArg (fun z : AlD => z.1) c)).2
  have e : fn.map (fun d => fnW K d.at_) = fn.map DefD.val := congrArg (fun z : AlD => z.2) c
  have e2 : (fn.map fun d => fnW K d.at_)[i]? = (fn.map DefD.val)[i]? := by rw [e]
  rw [List.getElem?_map, List.getElem?_map, h] at e2
  exact DefD.funD (Option.some.inj e2) (List.all_eq_true.mp c2 d (List.mem_of_getElem? h))
end
/-! ### own exceptions that keep a value -/
/-- the look at such a class: over the mro tl, made by newId, keeping its argument as f -/
def oexB (x f : Str) (tl : List Value) (newId : String) : FaQ := fun K => (match K.lookup (ga K x) with
    | some ⟨.type "type", _, .cls cd, sl⟩ => (match cd.mro, sl.toList with
      | .ref C :: bm, [_, _, _, _, some (.builtin n), _] => C == ga K x && (bm == tl && (n == newId && (!cd.hasDel && cd.hasDict)))
      | _, _ => false)
    | _ => false) && (decide (PySem.W.findIn K (.ref (ga K x)) "__setattr__" = some (some (.builtin "object.__setattr__"))) && (decide (PySem.W.subIn K (.ref (ga K x)) (.type "BaseException") = some true) &&
  (decide (PySem.W.typeIn K (.ref (ga K x)) = some (.type "type")) && (PySem.W.keepIn K (.ref (ga K x)) && (decide (PySem.W.findIn K (.ref (ga K x)) "__init__" = some (some (.ref (ma K (ga K x) "__init__")))) &&
  (decide (PySem.W.typeIn K (.ref (ma K (ga K x) "__init__")) = some (.type "function")) && decide (PySem.W.findIn K (.ref (ga K x)) f = some none)))))))
theorem oexB_ok {K : PySem.W.Frag} {x f : Str} {tl : List Value} {newId : String} (h : oexB x f tl newId K = true) : OexT K (ga K x) (ma K (ga K x) "__init__") tl newId ∧ PySem.W.findIn K (.ref (ga K x)) f = some none := by
  unfold oexB at h
  simp only [Bool.and_eq_true, decide_eq_true_eq] at h
  obtain ⟨h1, h2, h3, h4, h5, h6, h7, h8⟩ := h
  refine ⟨⟨?_, h2, h3, h4, h5, h6, h7⟩, h8⟩
  split at h1
  · rename_i dd cd sl ho
    split at h1
    · rename_i C bm k0 k1 k2 k3 n k5 hm hs
      simp only [Bool.and_eq_true, beq_iff_eq, Bool.not_eq_true'] at h1
      obtain ⟨rfl, rfl, rfl, hdel, hdic⟩ := h1
      obtain ⟨nm, bs, mro, ns, qn, hd, sn, sub, ab, col, del⟩ := cd
      dsimp only at hm hdel hdic
      subst hm hdel hdic
      have hsl : sl = #[k0, k1, k2, k3, some (.builtin n), k5] := by
        rw [← Array.toList_inj]
        exact hs
      subst hsl
      exact ⟨nm, qn, ns, bs, sn, sub, ab, col, dd, k0, k1, k2, k3, k5, ho⟩
    · cases h1
  · cases h1
/-- the suite of such a class: one def -/
def clsDef : Stmt → Stmt
  | .ClassDef _ _ _ (st :: _) _ _ _ _ _ _ _ => st
  | s => s
theorem mk_KeyError : MkT "LookupError.__new__" [.type "KeyError", .type "LookupError", .type "Exception", .type "BaseException", .type "object"] :=
  ⟨"LookupError", "LookupError.__init__", _, PySem.F.excBase_LookupError, by decide +kernel, by decide +kernel, by decide +kernel⟩
theorem mk_LookupError : MkT "LookupError.__new__" [.type "LookupError", .type "Exception", .type "BaseException", .type "object"] :=
  ⟨"LookupError", "LookupError.__init__", _, PySem.F.excBase_LookupError, by decide +kernel, by decide +kernel, by decide +kernel⟩
theorem mk_IndexError : MkT "IndexError.__new__" [.type "IndexError", .type "LookupError", .type "Exception", .type "BaseException", .type "object"] :=
  ⟨"IndexError", "IndexError.__init__", _, PySem.F.excBase_IndexError, by decide +kernel, by decide +kernel, by decide +kernel⟩
theorem mk_OverflowError : MkT "OverflowError.__new__" [.type "OverflowError", .type "ArithmeticError", .type "Exception", .type "BaseException", .type "object"] :=
  ⟨"OverflowError", "OverflowError.__init__", _, PySem.F.excBase_OverflowError, by decide +kernel, by decide +kernel, by decide +kernel⟩
theorem mk_ArithmeticError : MkT "ArithmeticError.__new__" [.type "ArithmeticError", .type "Exception", .type "BaseException", .type "object"] :=
  ⟨"ArithmeticError", "ArithmeticError.__init__", _, PySem.F.excBase_ArithmeticError, by decide +kernel, by decide +kernel, by decide +kernel⟩
theorem mk_RuntimeError : MkT "RuntimeError.__new__" [.type "RuntimeError", .type "Exception", .type "BaseException", .type "object"] :=
  ⟨"RuntimeError", "RuntimeError.__init__", _, PySem.F.excBase_RuntimeError, by decide +kernel, by decide +kernel, by decide +kernel⟩
theorem tl_KeyError : Tail [.type "KeyError", .type "LookupError", .type "Exception", .type "BaseException", .type "object"] := ⟨fun self => by kernel_rfl, by decide +kernel⟩
theorem tl_LookupError : Tail [.type "LookupError", .type "Exception", .type "BaseException", .type "object"] := ⟨fun self => by kernel_rfl, by decide +kernel⟩
theorem tl_IndexError : Tail [.type "IndexError", .type "LookupError", .type "Exception", .type "BaseException", .type "object"] := ⟨fun self => by kernel_rfl, by decide +kernel⟩
theorem tl_OverflowError : Tail [.type "OverflowError", .type "ArithmeticError", .type "Exception", .type "BaseException", .type "object"] := ⟨fun self => by kernel_rfl, by decide +kernel⟩
theorem tl_ArithmeticError : Tail [.type "ArithmeticError", .type "Exception", .type "BaseException", .type "object"] := ⟨fun self => by kernel_rfl, by decide +kernel⟩
theorem tl_RuntimeError : Tail [.type "RuntimeError", .type "Exception", .type "BaseException", .type "object"] := ⟨fun self => by kernel_rfl, by decide +kernel⟩
theorem ownF_of {P : Program} {w : World} {K : PySem.W.Frag} {mg : Str → Option Value} {base : Heap} {x f arg qual : Str} {newId : String} {tl : List Value} {p1 p2 p3 p4 : Pos} {fd : FuncData} {params : Arguments} {sc : Scope}
    (b : oexB x f tl newId K = true) (M : MkT newId tl) (B : Tail tl) (F : FunD K "__init__" qual params [.Assign [.Attribute (.Name "self" p1) f p2] (.Name arg p3) p4] sc [] [] (ma K (ga K x) "__init__") fd)
    (S : FnScope ["self", arg] ["self", arg] sc) (v1 : Vis sc "self") (v2 : Vis sc arg) (d2 : (arg == ("__debug__" : Str)) = false) (c2 : (arg == ("__classdict__" : Str)) = false)
    (hs : ∀ env : PySem.Env, swapsWith (.Name arg p3) (some (.Attribute (.Name "self" p1) f p2)) p4.line env = pure false) (bd : Binds K fd ["self", arg] []) (at_ : mg x = some (.ref (ga K x))) : OwnF P w K mg base x f := by
  obtain ⟨T, no⟩ := oexB_ok b
  exact ⟨⟨_, fd, tl, newId, arg, M, T, ok_init T B no F S v1 v2 d2 c2 hs, bd⟩, at_⟩
/-- a constant of the module -/
def gdB (x : Str) (d : D) : FaQ := fun K => match PySem.W.nsIn K mainGlobals x with
  | some (some u) => isD K d u
  | _ => false
theorem gdB_ok {K : PySem.W.Frag} {h : Heap} {mg : Str → Option Value} (X : K.In h) (G : h.Ns mainGlobals mg) {x : Str} {d : D} (c : gdB x d K = true) : ∃ u, mg x = some u ∧ isD K d u = true := by
  unfold gdB at c
  split at c
  · rename_i u e
    exact ⟨u, PySem.W.mg_of X G e, c⟩
  · cases c
def qf (f : Fa) : FaQ := fun K => f.ok K
end DL

set_option Elab.async false
set_option linter.all false
set_option maxRecDepth 100000
set_option autoImplicit false
set_option maxHeartbeats 1000000
/-! evaluation: what the functions of the layer make, from the inside out -/
namespace DL
open PySem PySem.Spec PyProof.Rows L2
section
variable {α β : Type} {Γ Γ' : Env} {M M' : Store} {w w' : W} {x y d : D} {xs ys : List D} {f g h' : EF} {af bf : AF} {t u' : TF} {u v : SF} {b : Bool}
@[simp] theorem bnd_ok (a : α) (k : α → Store → Option (Out β)) : bnd (some (.ok a M)) k = k a M := rfl
@[simp] theorem bnd_exc (e : XD) (k : α → Store → Option (Out β)) : bnd (some (.exc e M)) k = some (.exc e M) := rfl
@[simp] theorem bndS_ok (a : α) (k : α → Store → Option SO) : bndS Γ (some (.ok a M)) k = k a M := rfl
@[simp] theorem bndS_exc (e : XD) (k : α → Store → Option SO) : bndS Γ (some (.exc e M)) k = some (.ex e Γ M) := rfl
/-- behind a statement -/
def seqK (o : Option SO) (b : SF) : Option SO := match o with
  | some (.nx Γ' M') => b Γ' M'
  | r => r
@[simp] theorem seqK_nx : seqK (some (.nx Γ M)) u = u Γ M := rfl
@[simp] theorem seqK_rt : seqK (some (.rt w M)) u = some (.rt w M) := rfl
@[simp] theorem seqK_ct : seqK (some (.ct Γ M)) u = some (.ct Γ M) := rfl
@[simp] theorem seqK_bk : seqK (some (.bk Γ M)) u = some (.bk Γ M) := rfl
@[simp] theorem seqK_ex (e : XD) : seqK (some (.ex e Γ M)) u = some (.ex e Γ M) := rfl
@[simp] theorem sSeq_ap : sSeq u v Γ M = seqK (u Γ M) v := rfl
@[simp] theorem sNx_ap : sNx Γ M = some (.nx Γ M) := rfl
@[simp] theorem sRetN_ap : sRetN Γ M = some (.rt (.d .non) M) := rfl
@[simp] theorem sBrk_ap : sBrk Γ M = some (.bk Γ M) := rfl
@[simp] theorem sCnt_ap : sCnt Γ M = some (.ct Γ M) := rfl
@[simp] theorem sIf_ap : sIf t u v Γ M = bndS Γ (t Γ M) fun k M1 => if k = true then u Γ M1 else v Γ M1 := rfl
@[simp] theorem sRet_ap : sRet f Γ M = bndS Γ (f Γ M) fun w M1 => some (.rt w M1) := rfl
@[simp] theorem sSet_ap (i : Nat) : sSet i f Γ M = bndS Γ (f Γ M) fun w M1 => some (.nx (Γ.set i (some w)) M1) := rfl
@[simp] theorem sExpr_ap : sExpr f Γ M = bndS Γ (f Γ M) fun _ M1 => some (.nx Γ M1) := rfl
@[simp] theorem sRaise_ap (e : XD) : sRaise e Γ M = some (.ex e Γ M) := rfl
def parK (i j : Nat) (Γ : Env) (ws : List W) (M1 : Store) : Option SO := match ws with
  | [a, b] => some (.nx ((Γ.set i (some a)).set j (some b)) M1)
  | _ => none
@[simp] theorem parK_2 (i j : Nat) (a b : W) : parK i j Γ [a, b] M = some (.nx ((Γ.set i (some a)).set j (some b)) M) := rfl
@[simp] theorem sPar_ap (i j : Nat) : sPar i j af Γ M = bndS Γ (af Γ M) (parK i j Γ) := rfl
@[simp] theorem sPar3_ap (i j l : Nat) : sPar3 i j l af Γ M = bndS Γ (af Γ M) fun ws M1 => match ws with
  | [a, b, c] => some (.nx (((Γ.set i (some a)).set j (some b)).set l (some c)) M1)
  | _ => none := rfl
@[simp] theorem sSets_ap (is : List Nat) : sSets is af Γ M = bndS Γ (af Γ M) fun ws M1 => if ws.length = is.length then some (.nx ((is.zip ws).foldl (fun Γ p => Γ.set p.1 (some p.2)) Γ) M1) else none := rfl
def asgK (g : GF) (Γ : Env) (w : W) (M1 : Store) : Option SO := match w with
  | .d d => (g d Γ).map fun Γ' => .nx Γ' M1
  | _ => none
@[simp] theorem asgK_d (g : GF) : asgK g Γ (.d d) M = (g d Γ).map fun Γ' => .nx Γ' M := rfl
@[simp] theorem sAsg_ap (g : GF) : sAsg f g Γ M = bndS Γ (f Γ M) (asgK g Γ) := by
  rfl
/-! arguments -/
@[simp] theorem aNil_ap : aNil Γ M = some (.ok [] M) := rfl
@[simp] theorem aCons_ap : aCons f af Γ M = bnd (f Γ M) fun w M1 => bnd (af Γ M1) fun ws M2 => some (.ok (w :: ws) M2) := rfl
def varK (o : Option (Option W)) (M : Store) : Option (Out W) := match o with
  | some (some w) => some (.ok w M)
  | _ => none
@[simp] theorem varK_some : varK (some (some w)) M = some (.ok w M) := rfl
@[simp] theorem eVar_ap (i : Nat) : eVar i Γ M = varK Γ[i]? M := rfl
@[simp] theorem eC_ap : eC d Γ M = some (.ok (.d d) M) := rfl
@[simp] theorem allD_nil : allD [] = some [] := rfl
@[simp] theorem allD_cons (r : List W) : allD (.d x :: r) = (allD r).map (x :: ·) := rfl
@[simp] theorem allD_mapd (ds : List D) : allD (ds.map .d) = some ds := by
  induction ds with
  | nil => rfl
  | cons d ds ih => show (allD (ds.map .d)).map (d :: ·) = _; rw [ih]; rfl
/-- a value that was reckoned, or not -/
def resK (o : Option D) (M : Store) : Option (Out W) := o.map fun d => .ok (.d d) M
@[simp] theorem resK_some : resK (some d) M = some (.ok (.d d) M) := rfl
@[simp] theorem eTup_ap : eTup af Γ M = bnd (af Γ M) fun ws M1 => resK ((allD ws).map .tup) M1 := by
  unfold eTup resK
  cases af Γ M with
  | none => rfl
  | some o => cases o with
    | ok ws M1 => show (allD ws).map _ = ((allD ws).map D.tup).map _; rw [Option.map_map]; rfl
    | exc x M1 => rfl
@[simp] theorem eLst_ap : eLst af Γ M = bnd (af Γ M) fun ws M1 => resK ((allD ws).map .lst) M1 := by
  unfold eLst resK
  cases af Γ M with
  | none => rfl
  | some o => cases o with
    | ok ws M1 => show (allD ws).map _ = ((allD ws).map D.lst).map _; rw [Option.map_map]; rfl
    | exc x M1 => rfl
@[simp] theorem eLstC_ap : eLstC af Γ M = bnd (af Γ M) fun ws M1 => (allD ws).map fun ds => .ok (.r M1.length) (M1 ++ [.lst ds]) := rfl
@[simp] theorem rd_d : rd M (.d d) = some d := rfl
theorem rd_r {i : Nat} {c : Cell} (h : M[i]? = some c) : rd M (.r i) = rdC (some c) := by show rdC M[i]? = _; rw [h]
@[simp] theorem rdC_lst : rdC (some (.lst xs)) = some (.lst xs) := rfl
@[simp] theorem rdC_dic (kvs : List (Key × D)) : rdC (some (.dic kvs)) = some (.dic kvs) := rfl
@[simp] theorem rd2_dd (h : D → D → Option D) : rd2 h M (.d x) (.d y) = h x y := rfl
theorem rd2_ap (h : D → D → Option D) : rd2 h M w w' = (rd M w).bind fun a => (rd M w').bind fun b => h a b := rfl
@[simp] theorem eOp_ap (h : D → D → Option D) : eOp h f g Γ M = bnd (f Γ M) fun w M1 => bnd (g Γ M1) fun w' M2 => resK (rd2 h M2 w w') M2 := rfl
def unK (h : D → Option D) (o : Option D) (M : Store) : Option (Out W) := resK (o.bind h) M
@[simp] theorem unK_some (h : D → Option D) : unK h (some d) M = resK (h d) M := rfl
@[simp] theorem eUn_ap (h : D → Option D) : eUn h f Γ M = bnd (f Γ M) fun w M1 => unK h (rd M1 w) M1 := rfl
@[simp] theorem rds_nil : rds M [] = some [] := rfl
@[simp] theorem rds_d (r : List W) : rds M (.d x :: r) = (rds M r).map (x :: ·) := rfl
theorem rds_c (r : List W) : rds M (w :: r) = (rd M w).bind fun x => (rds M r).map (x :: ·) := rfl
def callK (h : List D → Option D) (o : Option (List D)) (M : Store) : Option (Out W) := resK (o.bind h) M
@[simp] theorem callK_some (h : List D → Option D) : callK h (some xs) M = resK (h xs) M := rfl
@[simp] theorem eCall_ap (h : List D → Option D) : eCall h af Γ M = bnd (af Γ M) fun ws M1 => callK h (rds M1 ws) M1 := rfl
@[simp] theorem eCallC_ap (h : List D → Option (List D)) : eCallC h af Γ M = bnd (af Γ M) fun ws M1 => ((rds M1 ws).bind h).map fun ds => .ok (.r M1.length) (M1 ++ [.lst ds]) := rfl
@[simp] theorem eCallDc_ap (h : List D → Option (List (Key × D))) : eCallDc h af Γ M = bnd (af Γ M) fun ws M1 => ((rds M1 ws).bind h).map fun ds => .ok (.r M1.length) (M1 ++ [.dic ds]) := rfl
/-! truth -/
@[simp] theorem truthW_d : truthW M (.d d) = truthD d := rfl
@[simp] theorem truthD_bl : truthD (.bl b) = some b := rfl
@[simp] theorem eIf_ap : eIf t f g Γ M = bnd (t Γ M) fun k M1 => if k = true then f Γ M1 else g Γ M1 := rfl
def andK (o : Option Bool) (w : W) (M : Store) (Γ : Env) (g : EF) : Option (Out W) := o.bind fun k => if k = true then g Γ M else some (.ok w M)
def orK (o : Option Bool) (w : W) (M : Store) (Γ : Env) (g : EF) : Option (Out W) := o.bind fun k => if k = true then some (.ok w M) else g Γ M
@[simp] theorem andK_t : andK (some true) w M Γ g = g Γ M := rfl
@[simp] theorem andK_f : andK (some false) w M Γ g = some (.ok w M) := rfl
@[simp] theorem orK_t : orK (some true) w M Γ g = some (.ok w M) := rfl
@[simp] theorem orK_f : orK (some false) w M Γ g = g Γ M := rfl
@[simp] theorem eAnd_ap : eAnd f g Γ M = bnd (f Γ M) fun w M1 => andK (truthW M1 w) w M1 Γ g := rfl
@[simp] theorem eOr_ap : eOr f g Γ M = bnd (f Γ M) fun w M1 => orK (truthW M1 w) w M1 Γ g := rfl
def notK (o : Option Bool) (M : Store) : Option (Out W) := o.map fun k => .ok (.d (.bl (!k))) M
@[simp] theorem notK_some : notK (some b) M = some (.ok (.d (.bl (!b))) M) := rfl
@[simp] theorem eNot_ap : eNot f Γ M = bnd (f Γ M) fun w M1 => notK (truthW M1 w) M1 := rfl
def truK (o : Option Bool) (M : Store) : Option (Out Bool) := o.map fun k => .ok k M
@[simp] theorem truK_some : truK (some b) M = some (.ok b M) := rfl
@[simp] theorem tTru_ap : tTru f Γ M = bnd (f Γ M) fun w M1 => truK (truthW M1 w) M1 := rfl
@[simp] theorem blW_bl : blW (.d (.bl b)) = some b := rfl
@[simp] theorem tBl_ap : tBl f Γ M = bnd (f Γ M) fun w M1 => truK (blW w) M1 := rfl
@[simp] theorem tNot_ap : tNot t Γ M = bnd (t Γ M) fun k M1 => some (.ok (!k) M1) := rfl
@[simp] theorem tAnd_ap : tAnd t u' Γ M = bnd (t Γ M) fun k M1 => if k = true then u' Γ M1 else some (.ok false M1) := rfl
@[simp] theorem tOr_ap : tOr t u' Γ M = bnd (t Γ M) fun k M1 => if k = true then some (.ok true M1) else u' Γ M1 := rfl
@[simp] theorem tYesF_ap : tYesF Γ M = some (.ok true M) := rfl
def chK (h' : D → D → Option D) (o : Option D) (w' : W) (k : EF) (Γ : Env) (M2 : Store) : Option (Out W) := o.bind fun z => match z with
    | .bl true => bnd (k Γ M2) fun w'' M3 => (rd2 h' M3 w' w'').map fun d => .ok (.d d) M3
    | .bl false => some (.ok (.d (.bl false)) M2)
    | _ => none
@[simp] theorem chK_t (h : D → D → Option D) : chK h (some (.bl true)) w f Γ M = bnd (f Γ M) fun w'' M3 => resK (rd2 h M3 w w'') M3 := rfl
@[simp] theorem chK_f (h : D → D → Option D) : chK h (some (.bl false)) w f Γ M = some (.ok (.d (.bl false)) M) := rfl
@[simp] theorem eChain_ap (h h1 : D → D → Option D) : eChain h h1 f g h' Γ M = bnd (f Γ M) fun w M1 => bnd (g Γ M1) fun w' M2 => chK h1 (rd2 h M2 w w') w' h' Γ M2 := rfl
/-! calls -/
def liftK (o : Option (Out D)) (M : Store) : Option (Out W) := liftP o M
@[simp] theorem liftP_ok : liftP (some (.ok d M')) M = some (.ok (.d d) M) := rfl
@[simp] theorem liftP_exc (e : XD) : liftP (some (.exc e M')) M = some (.exc e M) := rfl
def cpK (F : FF) (o : Option (List D)) (M : Store) : Option (Out W) := o.bind fun ds => liftP (runP F ds) M
@[simp] theorem cpK_some (F : FF) : cpK F (some xs) M = liftP (runP F xs) M := rfl
@[simp] theorem eCallP_ap (F : FF) : eCallP F af Γ M = bnd (af Γ M) fun ws M1 => cpK F (allD ws) M1 := rfl
@[simp] theorem eCallF_ap (F : FF) : eCallF F af Γ M = bnd (af Γ M) fun ws M1 => cutF M1.length (F ws M1) := rfl
@[simp] theorem eCallC'_ap (F : FF) : eCallC' F af Γ M = bnd (af Γ M) fun ws M1 => cutC M1.length (F ws M1) := rfl
@[simp] theorem eCallI_ap (F : FF) : eCallI F af Γ M = bnd (af Γ M) fun ws M1 => F ws M1 := rfl
/-- what a body's end is to the caller -/
def endK (o : Option SO) : Option (Out W) := match o with
  | none => none
  | some (.nx _ M') => some (.ok (.d .non) M')
  | some (.rt w M') => some (.ok w M')
  | some (.ex x _ M') => some (.exc x M')
  | some _ => none
@[simp] theorem endK_rt : endK (some (.rt w M)) = some (.ok w M) := rfl
@[simp] theorem endK_nx : endK (some (.nx Γ M)) = some (.ok (.d .non) M) := rfl
@[simp] theorem endK_ex (e : XD) : endK (some (.ex e Γ M)) = some (.exc e M) := rfl
theorem runB_ap (N : List Str) (ws : List W) : runB N u ws M = endK (u (startG N ws) M) := by
  unfold runB endK
  cases u (startG N ws) M with
  | none => rfl
  | some o => cases o <;> rfl
def pureK (o : Option (Out W)) : Option (Out D) := match o with
  | none => none
  | some (.ok w M') => (rd M' w).map fun d => .ok d []
  | some (.exc x _) => some (.exc x [])
@[simp] theorem pureK_ok : pureK (some (.ok w M)) = (rd M w).map fun d => .ok d [] := rfl
@[simp] theorem pureK_exc (e : XD) : pureK (some (.exc e M)) = some (.exc e []) := rfl
theorem runP_ap (N : List Str) (ds : List D) : runP (runB N u) ds = pureK (endK (u (startG N (ds.map .d)) [])) := by
  rw [← runB_ap]
  unfold runP pureK
  rfl
theorem runP_rt {N : List Str} {ds : List D} (h : u (startG N (ds.map .d)) [] = some (.rt (.d d) M)) : runP (runB N u) ds = some (.ok d []) := by
  rw [runP_ap, h]; rfl
theorem runP_ex {N : List Str} {ds : List D} {e : XD} (h : u (startG N (ds.map .d)) [] = some (.ex e Γ M)) : runP (runB N u) ds = some (.exc e []) := by
  rw [runP_ap, h]; rfl
/-! targets -/
@[simp] theorem gNm_ap (i : Nat) : gNm i d Γ = some (Γ.set i (some (.d d))) := rfl
@[simp] theorem gTp_ap (n : Nat) (g : GFs) : gTp n g (.tup xs) Γ = if xs.length = n then g xs Γ else none := rfl
@[simp] theorem gsNil_ap : gsNil [] Γ = some Γ := rfl
@[simp] theorem gsCons_ap (g : GF) (h : GFs) : gsCons g h (d :: xs) Γ = (g d Γ).bind (h xs) := rfl
/-! what is walked -/
def seqI (w : W) (M : Store) : Option (Out (List D)) := match w with
  | .d d => (seqD d).map fun ds => .ok ds M
  | _ => none
@[simp] theorem seqI_d : seqI (.d d) M = (seqD d).map fun ds => .ok ds M := rfl
@[simp] theorem seqD_lst : seqD (.lst xs) = some xs := rfl
@[simp] theorem seqD_rol : seqD (.rol xs) = some xs := rfl
@[simp] theorem seqD_tup : seqD (.tup xs) = some xs := rfl
@[simp] theorem seqD_str (z : Str) : seqD (.str z) = some (signs z) := rfl
@[simp] theorem iSeq_ap : iSeq f Γ M = bnd (f Γ M) seqI := by
  rfl
@[simp] theorem iRange_ap : iRange af Γ M = bnd (af Γ M) fun ws M1 => ((allD ws).bind rangeD).map fun ds => .ok ds M1 := rfl
@[simp] theorem sFor_ap (i : IF) (g : GF) : sFor i g u Γ M = bndS Γ (i Γ M) fun ds M1 => forF g u ds Γ M1 := rfl
@[simp] theorem forF_nil (g : GF) : forF g u [] Γ M = some (.nx Γ M) := rfl
/-! comprehensions -/
def compK (g : GF) (t : TF) (k : KF) (fin : List D → Store → Option (Out W)) (Γ : Env) (ds : List D) (M1 : Store) : Option (Out W) := (lcLoop g t k Γ ds M1).bind fun p => fin p.1 p.2
@[simp] theorem eComp_ap (i : IF) (g : GF) (wj : List Nat) (k : KF) (fin : List D → Store → Option (Out W)) : eComp i g t wj k fin Γ M = bnd (i Γ M) (compK g t k fin (wipeG Γ wj)) := rfl
@[simp] theorem wipeG_nil : wipeG Γ [] = Γ := rfl
@[simp] theorem wipeG_cons (i : Nat) (is : List Nat) : wipeG Γ (i :: is) = (wipeG Γ is).set i none := rfl
theorem finL_ok {ys : List D} (h : ys.length ≤ sizeLine) : finL ys M = some (.ok (.d (.lst ys)) M) := by unfold finL; rw [if_pos h]
theorem finLC_ok {ys : List D} (h : ys.length ≤ sizeLine) : finLC ys M = some (.ok (.r M.length) (M ++ [.lst ys])) := by unfold finLC; rw [if_pos h]
/-- a comprehension whose parts change nothing: the items that pass, each made -/
theorem lc_pure {g : GF} {k : KF} (P : D → Bool) (e : D → List D) : ∀ {ds : List D}, (∀ d ∈ ds, ∃ Γ1, g d Γ = some Γ1 ∧ t Γ1 M = some (.ok (P d) M) ∧ (P d = true → k Γ1 M = some (e d, M))) →
    lcLoop g t k Γ ds M = some ((ds.filter P).flatMap e, M)
  | [], _ => rfl
  | d :: ds, h => by
    obtain ⟨Γ1, h1, h2, h3⟩ := h d List.mem_cons_self
    have ih := lc_pure P e fun d' hd => h d' (List.mem_cons_of_mem _ hd)
    unfold lcLoop
    rw [h1]
    show (match t Γ1 M with
      | some (.ok true M1) => (k Γ1 M1).bind fun p => (lcLoop g t k Γ ds p.2).map fun (q : List D × Store) => (p.1 ++ q.1, q.2)
      | some (.ok false M1) => lcLoop g t k Γ ds M1
      | _ => none) = _
    rw [h2]
    cases hp : P d with
    | true =>
      show (k Γ1 M).bind _ = _
      rw [h3 hp]
      show (lcLoop g t k Γ ds M).map _ = _
      rw [ih, List.filter_cons, if_pos hp]
      rfl
    | false =>
      show lcLoop g t k Γ ds M = _
      rw [ih, List.filter_cons, if_neg (by rw [hp]; decide)]
theorem compL_pure {g : GF} {fe : EF} (P : D → Bool) (e : D → D) {ds : List D} (h : ∀ d ∈ ds, ∃ Γ1, g d Γ = some Γ1 ∧ t Γ1 M = some (.ok (P d) M) ∧ (P d = true → fe Γ1 M = some (.ok (.d (e d)) M))) (hl : ds.length ≤ sizeLine) :
    compK g t (kElt fe) finL Γ ds M = some (.ok (.d (.lst ((ds.filter P).map e))) M) := by
  unfold compK
  rw [lc_pure P (fun d => [e d]) fun d hd => by
    obtain ⟨Γ1, h1, h2, h3⟩ := h d hd
    exact ⟨Γ1, h1, h2, fun hp => by show (match fe Γ1 M with | some (.ok (.d y) M') => some ([y], M') | _ => none) = _; rw [h3 hp]⟩]
  have e1 : (ds.filter P).flatMap (fun d => [e d]) = (ds.filter P).map e := by rw [← List.flatMap_singleton' ((ds.filter P).map e), List.flatMap_map]
  rw [e1]
  exact finL_ok (Nat.le_trans (by rw [List.length_map]; exact List.length_filter_le _ _) hl)
theorem compL_all {g : GF} {fe : EF} (e : D → D) {ds : List D} (h : ∀ d ∈ ds, ∃ Γ1, g d Γ = some Γ1 ∧ fe Γ1 M = some (.ok (.d (e d)) M)) (hl : ds.length ≤ sizeLine) :
    compK g tYesF (kElt fe) finL Γ ds M = some (.ok (.d (.lst (ds.map e))) M) := by
  have := compL_pure (t := tYesF) (fun _ => true) e (fun d hd => by obtain ⟨Γ1, h1, h2⟩ := h d hd; exact ⟨Γ1, h1, rfl, fun _ => h2⟩) hl
  rwa [List.filter_eq_self.mpr (fun _ _ => rfl)] at this
/-! loops -/
theorem forF_cons {g : GF} {ds : List D} {Γ1 : Env} (hg : g d Γ = some Γ1) : forF g u (d :: ds) Γ M = (match u Γ1 M with
      | some (.nx Γ2 M2) => forF g u ds Γ2 M2
      | some (.ct Γ2 M2) => forF g u ds Γ2 M2
      | some (.bk Γ2 M2) => some (.nx Γ2 M2)
      | o => o) := by
  show (match g d Γ with | none => none | some Γ1 => _) = _
  rw [hg] <;> rfl
/-- every turn goes on -/
theorem forF_inv {g : GF} (I : List D → Env → Store → Prop) : ∀ {ds : List D} {Γ : Env} {M : Store}, (∀ d ds Γ M, I (d :: ds) Γ M → ∃ Γ1, g d Γ = some Γ1 ∧ ∃ Γ' M', (u Γ1 M = some (.nx Γ' M') ∨ u Γ1 M = some (.ct Γ' M')) ∧ I ds Γ' M') → I ds Γ M →
    ∃ Γ' M', forF g u ds Γ M = some (.nx Γ' M') ∧ I [] Γ' M'
  | [], Γ, M, _, h => ⟨Γ, M, rfl, h⟩
  | d :: ds, Γ, M, st, h => by
    obtain ⟨Γ1, h1, Γ', M', h2, h3⟩ := st d ds Γ M h
    obtain ⟨Γ2, M2, h4, h5⟩ := forF_inv I st h3
    refine ⟨Γ2, M2, ?_, h5⟩
    rw [forF_cons h1]
    rcases h2 with h2 | h2 <;> (rw [h2]; exact h4)
/-- a while: a measure that falls, fuel enough -/
theorem whF_inv (I : Nat → Env → Store → Prop) (J : Env → Store → Prop) : ∀ {n k : Nat} {Γ : Env} {M : Store}, k < n →
    (∀ k Γ M, I k Γ M → (∃ M1, t Γ M = some (.ok false M1) ∧ J Γ M1) ∨ ∃ M1 Γ' M' k', t Γ M = some (.ok true M1) ∧ (u Γ M1 = some (.nx Γ' M') ∨ u Γ M1 = some (.ct Γ' M')) ∧ k' < k ∧ I k' Γ' M') → I k Γ M →
    ∃ Γ' M', whF t u n Γ M = some (.nx Γ' M') ∧ J Γ' M'
  | 0, k, Γ, M, hk, _, _ => absurd hk (Nat.not_lt_zero _)
  | n + 1, k, Γ, M, hk, st, h => by
    rcases st k Γ M h with ⟨M1, h1, h2⟩ | ⟨M1, Γ', M', k', h1, h2, h3, h4⟩
    · refine ⟨Γ, M1, ?_, h2⟩
      show bndS Γ (t Γ M) _ = _
      rw [h1]
      rfl
    · obtain ⟨Γ2, M2, h5, h6⟩ := whF_inv I J (n := n) (Nat.lt_of_lt_of_le h3 (Nat.le_of_lt_succ hk)) st h4
      refine ⟨Γ2, M2, ?_, h6⟩
      show bndS Γ (t Γ M) _ = _
      rw [h1]
      rcases h2 with h2 | h2
      · show (match u Γ M1 with | some (.nx Γ2 M2) => whF t u n Γ2 M2 | some (.ct Γ2 M2) => whF t u n Γ2 M2 | some (.bk Γ2 M2) => some (.nx Γ2 M2) | o => o) = _
        rw [h2]; exact h5
      · show (match u Γ M1 with | some (.nx Γ2 M2) => whF t u n Γ2 M2 | some (.ct Γ2 M2) => whF t u n Γ2 M2 | some (.bk Γ2 M2) => some (.nx Γ2 M2) | o => o) = _
        rw [h2]; exact h5
end
end DL

set_option Elab.async false
set_option linter.all false
set_option maxRecDepth 100000
set_option autoImplicit false
set_option maxHeartbeats 1000000
namespace DL
open PySem PySem.Spec PyProof.Rows L2
section
variable {i j : Int} {x y z : Str} {a b d : D} {xs ys : List D} {p q : Bool} {kvs : List (Key × D)} {ks : List Key}
@[simp] theorem leD_int : leD (.int i) (.int j) = some (.bl (decide (i ≤ j))) := rfl
@[simp] theorem ltD_int : ltD (.int i) (.int j) = some (.bl (decide (i < j))) := rfl
@[simp] theorem geD_int : geD (.int i) (.int j) = some (.bl (decide (i ≥ j))) := rfl
@[simp] theorem gtD_int : gtD (.int i) (.int j) = some (.bl (decide (i > j))) := rfl
@[simp] theorem eqOp_int : eqOp (.int i) (.int j) = some (.bl (i == j)) := rfl
@[simp] theorem neOp_int : neOp (.int i) (.int j) = some (.bl (!(i == j))) := rfl
@[simp] theorem eqOp_str : eqOp (.str x) (.str y) = some (.bl (x == y)) := rfl
@[simp] theorem neOp_str : neOp (.str x) (.str y) = some (.bl (!(x == y))) := rfl
@[simp] theorem eqOp_bl : eqOp (.bl p) (.bl q) = some (.bl (p == q)) := rfl
@[simp] theorem neOp_bl : neOp (.bl p) (.bl q) = some (.bl (!(p == q))) := rfl
@[simp] theorem addD_int : addD (.int i) (.int j) = some (.int (i + j)) := rfl
@[simp] theorem subD_int : subD (.int i) (.int j) = some (.int (i - j)) := rfl
theorem addD_lst (h : xs.length + ys.length ≤ sizeLine) : addD (.lst xs) (.lst ys) = some (.lst (xs ++ ys)) := by
  simp [addD, orD, intOp0, addStr, addLst, h]
theorem addD_tup (h : xs.length + ys.length ≤ sizeLine) : addD (.tup xs) (.tup ys) = some (.tup (xs ++ ys)) := by
  simp [addD, orD, intOp0, addStr, addLst, addTup, h]
@[simp] theorem isa_tup : isaD [.tup xs, .ty "tuple"] = some (.bl true) := rfl
@[simp] theorem isa_str_tup : isaD [.str x, .ty "tuple"] = some (.bl false) := rfl
@[simp] theorem isa_int_tup : isaD [.int i, .ty "tuple"] = some (.bl false) := rfl
@[simp] theorem isa_str : isaD [.str x, .ty "str"] = some (.bl true) := rfl
@[simp] theorem isa_int : isaD [.int i, .ty "int"] = some (.bl true) := rfl
@[simp] theorem isa_int_bool : isaD [.int i, .ty "bool"] = some (.bl false) := rfl
@[simp] theorem lenA_tup : lenA [.tup xs] = some (.int xs.length) := rfl
@[simp] theorem lenA_lst : lenA [.lst xs] = some (.int xs.length) := rfl
@[simp] theorem lenA_rol : lenA [.rol xs] = some (.int xs.length) := rfl
@[simp] theorem lenA_set : lenA [.set ks] = some (.int ks.length) := rfl
@[simp] theorem tupleA_lst : tupleA [.lst xs] = some (.tup xs) := rfl
@[simp] theorem tupleA_tup : tupleA [.tup xs] = some (.tup xs) := rfl
@[simp] theorem listA_lst : listA [.lst xs] = some xs := rfl
@[simp] theorem listA_tup : listA [.tup xs] = some xs := rfl
theorem intsO_map (ns : List Int) : intsO (ns.map .int) = some ns := by
  induction ns with
  | nil => rfl
  | cons n ns ih => show (intsO (ns.map .int)).map (n :: ·) = _; rw [ih]; rfl
theorem blsO_map (bs : List Bool) : blsO (bs.map .bl) = some bs := by
  induction bs with
  | nil => rfl
  | cons n ns ih => show (blsO (ns.map .bl)).map (n :: ·) = _; rw [ih]; rfl
theorem strsO_map1 (ss : List Str) : strsO (ss.map .str) = some ss := by
  induction ss with
  | nil => rfl
  | cons n ns ih => show (strsO (ns.map .str)).map (n :: ·) = _; rw [ih]; rfl
theorem keysO_map (ss : List Str) : keysO (ss.map .str) = some (ss.map .inr) := by
  induction ss with
  | nil => rfl
  | cons n ns ih => show (keysO (ns.map .str)).map ((.inr n) :: ·) = _; rw [ih]; rfl
@[simp] theorem sumD_ints (ns : List Int) : sumD [.lst (ns.map .int)] = some (.int ns.sum) := by
  show (intsO (ns.map .int)).map (fun is => D.int is.sum) = _
  rw [intsO_map]; rfl
@[simp] theorem allBD_bls (bs : List Bool) : allBD [.lst (bs.map .bl)] = some (.bl (bs.all fun b => b)) := by
  show (blsO (bs.map .bl)).map (fun is => D.bl (is.all fun b => b)) = _
  rw [blsO_map]; rfl
/-- all(..) of a list of truths, item by item -/
theorem allBD_of {α : Type} (l : List α) (p : α → Bool) : allBD [.lst (l.map fun a => .bl (p a))] = some (.bl (l.all p)) := by
  have := allBD_bls (l.map p)
  rw [List.map_map] at this
  rw [show (l.map fun a => D.bl (p a)) = l.map (D.bl ∘ p) from rfl, this, List.all_map]
  rfl
theorem pl_strs (ss : List Str) : plL (ss.map .str) = true := by
  induction ss with
  | nil => rfl
  | cons n ns ih => show (true && plL (ns.map .str)) = true; rw [ih]; rfl
theorem any_strs (ss : List Str) (x : Str) : (ss.map D.str).any (fun d => eqD d (.str x)) = decide (x ∈ ss) := by
  induction ss with
  | nil => rfl
  | cons n ns ih =>
    show ((n == x) || (ns.map D.str).any (fun d => eqD d (.str x))) = _
    rw [ih]
    by_cases h : n = x
    · subst h; simp
    · have h' : ¬ x = n := fun z => h z.symm
      simp [h, h']
@[simp] theorem inA_strs (ss : List Str) : inA (.str x) (.lst (ss.map .str)) = some (.bl (decide (x ∈ ss))) := by
  have h : inOk (.str x) (ss.map D.str) = true := by unfold inOk; rw [pl_strs]; rfl
  have e : inSqD false (.str x) (.lst (ss.map .str)) = some (.bl (decide (x ∈ ss))) := by
    show (if inOk (.str x) (ss.map D.str) = true then some (D.bl (xor false ((ss.map D.str).any fun d => eqD d (.str x)))) else none) = _
    rw [if_pos h, any_strs, Bool.false_xor]
  show orD (orD inStrD (inSqD false)) _ _ _ = _
  unfold orD
  rw [show inStrD (.str x) (.lst (ss.map .str)) = none from rfl]
  simp only [e]
@[simp] theorem ninA_strs (ss : List Str) : ninA (.str x) (.lst (ss.map .str)) = some (.bl (!decide (x ∈ ss))) := by
  have h : inOk (.str x) (ss.map D.str) = true := by unfold inOk; rw [pl_strs]; rfl
  have e : inSqD true (.str x) (.lst (ss.map .str)) = some (.bl (!decide (x ∈ ss))) := by
    show (if inOk (.str x) (ss.map D.str) = true then some (D.bl (xor true ((ss.map D.str).any fun d => eqD d (.str x)))) else none) = _
    rw [if_pos h, any_strs, Bool.true_xor]
  show orD (orD notInStrD (inSqD true)) _ _ _ = _
  unfold orD
  rw [show notInStrD (.str x) (.lst (ss.map .str)) = none from rfl]
  simp only [e]
@[simp] theorem inA_strsT (ss : List Str) : inA (.str x) (.tup (ss.map .str)) = some (.bl (decide (x ∈ ss))) := by
  have h : inOk (.str x) (ss.map D.str) = true := by unfold inOk; rw [pl_strs]; rfl
  have e : inSqD false (.str x) (.tup (ss.map .str)) = some (.bl (decide (x ∈ ss))) := by
    show (if inOk (.str x) (ss.map D.str) = true then some (D.bl (xor false ((ss.map D.str).any fun d => eqD d (.str x)))) else none) = _
    rw [if_pos h, any_strs, Bool.false_xor]
  show orD (orD inStrD (inSqD false)) _ _ _ = _
  unfold orD
  rw [show inStrD (.str x) (.tup (ss.map .str)) = none from rfl]
  simp only [e]
@[simp] theorem ninA_strsT (ss : List Str) : ninA (.str x) (.tup (ss.map .str)) = some (.bl (!decide (x ∈ ss))) := by
  have h : inOk (.str x) (ss.map D.str) = true := by unfold inOk; rw [pl_strs]; rfl
  have e : inSqD true (.str x) (.tup (ss.map .str)) = some (.bl (!decide (x ∈ ss))) := by
    show (if inOk (.str x) (ss.map D.str) = true then some (D.bl (xor true ((ss.map D.str).any fun d => eqD d (.str x)))) else none) = _
    rw [if_pos h, any_strs, Bool.true_xor]
  show orD (orD notInStrD (inSqD true)) _ _ _ = _
  unfold orD
  rw [show notInStrD (.str x) (.tup (ss.map .str)) = none from rfl]
  simp only [e]
@[simp] theorem inA_dic : inA (.str x) (.dic kvs) = some (.bl (valD kvs (.inr x)).isSome) := by
  show some (D.bl (xor false (valD kvs (.inr x)).isSome)) = _
  rw [Bool.false_xor]
@[simp] theorem ninA_dic : ninA (.str x) (.dic kvs) = some (.bl (!(valD kvs (.inr x)).isSome)) := by
  show some (D.bl (xor true (valD kvs (.inr x)).isSome)) = _
  rw [Bool.true_xor]
@[simp] theorem inA_set : inA (.str x) (.set ks) = some (.bl (hasK ks (.inr x))) := by
  show some (D.bl (xor false (hasK ks (.inr x)))) = _
  rw [Bool.false_xor]
@[simp] theorem ixA_dic : ixA (.dic kvs) (.str x) = valD kvs (.inr x) := rfl
theorem atI_nat {α : Type} (l : List α) (n : Nat) : atI l (n : Int) = l[n]? := by
  unfold atI ixN
  rw [if_pos (Int.natCast_nonneg n)]
  by_cases h : (n : Int) < l.length
  · rw [if_pos h]; rfl
  · rw [if_neg h, List.getElem?_eq_none (by omega)]; rfl
theorem ixA_tup (n : Nat) (h : xs[n]? = some a) : ixA (.tup xs) (.int (n : Nat)) = some a := by
  show (match atI xs (n : Int) with | some d => some d | none => ixDic (.tup xs) (.int n)) = _
  rw [atI_nat, h]
theorem ixA_lst (n : Nat) (h : xs[n]? = some a) : ixA (.lst xs) (.int (n : Nat)) = some a := by
  show (match atI xs (n : Int) with | some d => some d | none => ixDic (.lst xs) (.int n)) = _
  rw [atI_nat, h]
theorem ixA_rol (n : Nat) (h : xs[n]? = some a) : ixA (.rol xs) (.int (n : Nat)) = some a := by
  show (match atI xs (n : Int) with | some d => some d | none => ixDic (.rol xs) (.int n)) = _
  rw [atI_nat, h]
@[simp] theorem ixA_tup0 : ixA (.tup (a :: xs)) (.int 0) = some a := ixA_tup 0 rfl
@[simp] theorem ixA_tup1 : ixA (.tup (a :: b :: xs)) (.int 1) = some b := ixA_tup 1 rfl
@[simp] theorem ixA_tup2 : ixA (.tup (a :: b :: d :: xs)) (.int 2) = some d := ixA_tup 2 rfl
@[simp] theorem ixA_lst0 : ixA (.lst (a :: xs)) (.int 0) = some a := ixA_lst 0 rfl
@[simp] theorem ixA_lst1 : ixA (.lst (a :: b :: xs)) (.int 1) = some b := ixA_lst 1 rfl
@[simp] theorem ixA_lst2 : ixA (.lst (a :: b :: d :: xs)) (.int 2) = some d := ixA_lst 2 rfl
theorem signs_small {n : Nat} (h : n ≤ 16777216) : n ≤ sizeLine := h
/-! comprehensions over encoded lists -/
theorem compM {α : Type} {l : List α} {enc e : α → D} {g : GF} {fe : EF} {Γ : DL.Env} {M : Store} (h : ∀ a ∈ l, ∃ Γ1, g (enc a) Γ = some Γ1 ∧ fe Γ1 M = some (.ok (.d (e a)) M)) (hl : l.length ≤ sizeLine) :
    compK g tYesF (kElt fe) finL Γ (l.map enc) M = some (.ok (.d (.lst (l.map e))) M) := by
  have go : ∀ l : List α, (∀ a ∈ l, ∃ Γ1, g (enc a) Γ = some Γ1 ∧ fe Γ1 M = some (.ok (.d (e a)) M)) → lcLoop g tYesF (kElt fe) Γ (l.map enc) M = some (l.map e, M) := by
    intro l
    induction l with
    | nil => intro _; rfl
    | cons a l ih =>
      intro h
      obtain ⟨Γ1, h1, h2⟩ := h a List.mem_cons_self
      show (g (enc a) Γ).bind _ = _
      rw [h1]
      show (kElt fe Γ1 M).bind _ = _
      rw [show kElt fe Γ1 M = some ([e a], M) by unfold kElt; rw [h2]]
      show (lcLoop g tYesF (kElt fe) Γ (l.map enc) M).map _ = _
      rw [ih fun b hb => h b (List.mem_cons_of_mem _ hb)]
      rfl
  unfold compK
  rw [go l h]
  exact finL_ok (by rw [List.length_map]; exact hl)
/-- .. with a test, what is made of the items that pass -/
theorem lcM {α : Type} {l : List α} {enc : α → D} {P : α → Bool} {e : α → List D} {g : GF} {t : TF} {k : KF} {Γ : DL.Env} {M : Store} (h : ∀ a ∈ l, ∃ Γ1, g (enc a) Γ = some Γ1 ∧ t Γ1 M = some (.ok (P a) M) ∧ (P a = true → k Γ1 M = some (e a, M))) :
    lcLoop g t k Γ (l.map enc) M = some ((l.filter P).flatMap e, M) := by
  induction l with
  | nil => rfl
  | cons a l ih =>
    obtain ⟨Γ1, h1, h2, h3⟩ := h a List.mem_cons_self
    have ih := ih fun b hb => h b (List.mem_cons_of_mem _ hb)
    show (g (enc a) Γ).bind _ = _
    rw [h1]
    show (match t Γ1 M with
      | some (.ok true M1) => (k Γ1 M1).bind fun p => (lcLoop g t k Γ (l.map enc) p.2).map fun (q : List D × Store) => (p.1 ++ q.1, q.2)
      | some (.ok false M1) => lcLoop g t k Γ (l.map enc) M1
      | _ => none) = _
    rw [h2]
    cases hp : P a with
    | true =>
      show (k Γ1 M).bind _ = _
      rw [h3 hp]
      show (lcLoop g t k Γ (l.map enc) M).map _ = _
      rw [ih, List.filter_cons, if_pos hp]
      rfl
    | false =>
      show lcLoop g t k Γ (l.map enc) M = _
      rw [ih, List.filter_cons, if_neg (by rw [hp]; decide)]
theorem kElt_ok {fe : EF} {Γ : DL.Env} {M : Store} {y : D} (h : fe Γ M = some (.ok (.d y) M)) : kElt fe Γ M = some ([y], M) := by
  unfold kElt; rw [h]
theorem kInM {α : Type} {l : List α} {enc : α → D} {P : α → Bool} {e : α → List D} {i : IF} {g : GF} {t : TF} {wj : List Nat} {k : KF} {Γ : DL.Env} {M : Store} (hi : i Γ M = some (.ok (l.map enc) M)) (h : ∀ a ∈ l, ∃ Γ1, g (enc a) (wipeG Γ wj) = some Γ1 ∧ t Γ1 M = some (.ok (P a) M) ∧ (P a = true → k Γ1 M = some (e a, M))) :
    kIn i g t wj k Γ M = some ((l.filter P).flatMap e, M) := by
  unfold kIn
  rw [hi]
  exact lcM h
theorem compMF {α : Type} {l : List α} {enc e : α → D} {P : α → Bool} {g : GF} {t : TF} {fe : EF} {Γ : DL.Env} {M : Store} (h : ∀ a ∈ l, ∃ Γ1, g (enc a) Γ = some Γ1 ∧ t Γ1 M = some (.ok (P a) M) ∧ (P a = true → fe Γ1 M = some (.ok (.d (e a)) M))) (hl : l.length ≤ sizeLine) :
    compK g t (kElt fe) finL Γ (l.map enc) M = some (.ok (.d (.lst ((l.filter P).map e))) M) := by
  unfold compK
  rw [lcM (P := P) (e := fun a => [e a]) fun a ha => by
    obtain ⟨Γ1, h1, h2, h3⟩ := h a ha
    exact ⟨Γ1, h1, h2, fun hp => kElt_ok (h3 hp)⟩]
  have e1 : (l.filter P).flatMap (fun d => [e d]) = (l.filter P).map e := by rw [← List.flatMap_singleton' ((l.filter P).map e), List.flatMap_map]
  show finL ((l.filter P).flatMap fun d => [e d]) M = _
  rw [e1]
  exact finL_ok (Nat.le_trans (by rw [List.length_map]; exact List.length_filter_le _ _) hl)
/-- the loop that is never left -/
theorem forM {α : Type} {l : List α} {enc : α → D} {g : GF} {u : SF} (I : List α → DL.Env → Store → Prop) (st : ∀ a r Γ M, I (a :: r) Γ M → ∃ Γ1, g (enc a) Γ = some Γ1 ∧ ∃ Γ' M', u Γ1 M = some (.nx Γ' M') ∧ I r Γ' M') {Γ : DL.Env} {M : Store} (h : I l Γ M) :
    ∃ Γ' M', forF g u (l.map enc) Γ M = some (.nx Γ' M') ∧ I [] Γ' M' := by
  induction l generalizing Γ M with
  | nil => exact ⟨Γ, M, rfl, h⟩
  | cons a l ih =>
    obtain ⟨Γ1, h1, Γ', M', h2, h3⟩ := st a l Γ M h
    obtain ⟨Γ2, M2, h4, h5⟩ := ih h3
    refine ⟨Γ2, M2, ?_, h5⟩
    rw [List.map_cons, forF_cons h1, h2]
    exact h4
/-! sets of texts -/
theorem hasK_addK (ks : List Key) (k j : Key) : hasK (addK ks k) j = (hasK ks j || decide (k = j)) := by
  unfold addK
  split
  · rename_i h
    by_cases e : k = j
    · subst e; rw [h]; simp
    · simp [e]
  · unfold hasK
    rw [List.any_append]
    simp
theorem hasK_cons (a : Key) (l : List Key) (j : Key) : hasK (a :: l) j = (decide (a = j) || hasK l j) := rfl
theorem setK_go (l : List Key) : ∀ (acc : List Key) (j : Key), hasK (l.foldl addK acc) j = (hasK acc j || hasK l j) := by
  induction l with
  | nil => intro acc j; simp [hasK]
  | cons a l ih =>
    intro acc j
    rw [List.foldl_cons, ih, hasK_addK, hasK_cons, Bool.or_assoc]
theorem hasK_setK (l : List Key) (j : Key) : hasK (setK l) j = hasK l j := by
  unfold setK
  rw [setK_go]
  simp [hasK]
theorem hasK_strs (ss : List Str) (x : Str) : hasK (ss.map fun a => (.inr a : Key)) (.inr x) = decide (x ∈ ss) := by
  induction ss with
  | nil => rfl
  | cons a l ih =>
    rw [List.map_cons, hasK_cons, ih]
    by_cases h : a = x
    · subst h; simp
    · have h' : ¬ x = a := fun z => h z.symm
      have h2 : ¬ ((.inr a : Key) = .inr x) := fun z => h (by injection z)
      simp [h2, h']
theorem len_setK_go (l : List Key) : ∀ (acc : List Key), (∀ j ∈ l, hasK acc j = false) → l.Nodup → (l.foldl addK acc).length = acc.length + l.length := by
  induction l with
  | nil => intro acc _ _; rfl
  | cons a l ih =>
    intro acc h nd
    rw [List.foldl_cons]
    have e : addK acc a = acc ++ [a] := by unfold addK; rw [h a List.mem_cons_self]; rfl
    rw [ih (addK acc a) (fun j hj => by rw [hasK_addK, h j (List.mem_cons_of_mem _ hj)]; simp; exact fun z => (List.nodup_cons.mp nd).1 (z ▸ hj)) (List.nodup_cons.mp nd).2, e]
    simp
    omega
theorem len_setK {l : List Key} (h : l.Nodup) : (setK l).length = l.length := by
  unfold setK
  rw [len_setK_go l [] (fun _ _ => rfl) h]
  simp
theorem compS {α : Type} {l : List α} {enc : α → D} {e : α → Str} {g : GF} {fe : EF} {Γ : DL.Env} {M : Store} (h : ∀ a ∈ l, ∃ Γ1, g (enc a) Γ = some Γ1 ∧ fe Γ1 M = some (.ok (.d (.str (e a))) M)) (hl : l.length ≤ scanBound - 1) :
    compK g tYesF (kChk isKeys (kElt fe)) finS Γ (l.map enc) M = some (.ok (.d (.set (setK (l.map fun a => .inr (e a))))) M) := by
  unfold compK
  rw [lcM (P := fun _ => true) (e := fun a => [.str (e a)]) fun a ha => by
    obtain ⟨Γ1, h1, h2⟩ := h a ha
    refine ⟨Γ1, h1, rfl, fun _ => ?_⟩
    unfold kChk
    rw [kElt_ok h2]
    rfl]
  have e1 : (l.filter fun _ => true).flatMap (fun d => [D.str (e d)]) = (l.map e).map .str := by
    rw [List.filter_eq_self.mpr fun _ _ => rfl]
    induction l with
    | nil => rfl
    | cons a l ih => rw [List.flatMap_cons, List.map_cons, List.map_cons, ih (fun b hb => h b (List.mem_cons_of_mem _ hb)) (by rw [List.length_cons] at hl; omega)]; rfl
  show finS ((l.filter fun _ => true).flatMap fun d => [D.str (e d)]) M = _
  rw [e1]
  unfold finS
  rw [if_pos (by simpa using hl), keysO_map, List.map_map]
  rfl
theorem nodup_inr {l : List Str} (h : l.Nodup) : (l.map fun x => (.inr x : Key)).Nodup := by
  rw [List.Nodup, List.pairwise_map]
  exact h.imp fun h z => h (by injection z)
theorem forM_seq {α : Type} {l : List α} {enc : α → D} {g : GF} {u v : SF} {Γ : DL.Env} {M : Store} {o : Option SO} (I : List α → DL.Env → Store → Prop) (st : ∀ a r Γ M, I (a :: r) Γ M → ∃ Γ1, g (enc a) Γ = some Γ1 ∧ ∃ Γ' M', u Γ1 M = some (.nx Γ' M') ∧ I r Γ' M') (h : I l Γ M)
    (k : ∀ Γ' M', I [] Γ' M' → v Γ' M' = o) : seqK (forF g u (l.map enc) Γ M) v = o := by
  obtain ⟨Γ', M', h1, h2⟩ := forM I st h
  rw [h1]
  exact k Γ' M' h2
theorem lcA {α : Type} {l : List α} {enc : α → D} {e : α → List D} {g : GF} {k : KF} {Γ : DL.Env} {M : Store} (h : ∀ a ∈ l, ∃ Γ1, g (enc a) Γ = some Γ1 ∧ k Γ1 M = some (e a, M)) :
    lcLoop g tYesF k Γ (l.map enc) M = some (l.flatMap e, M) := by
  rw [lcM (P := fun _ => true) fun a ha => by
    obtain ⟨Γ1, h1, h2⟩ := h a ha
    exact ⟨Γ1, h1, rfl, fun _ => h2⟩]
  rw [List.filter_eq_self.mpr fun _ _ => rfl]
theorem kInA {α : Type} {l : List α} {enc : α → D} {e : α → List D} {i : IF} {g : GF} {wj : List Nat} {k : KF} {Γ : DL.Env} {M : Store} (hi : i Γ M = some (.ok (l.map enc) M)) (h : ∀ a ∈ l, ∃ Γ1, g (enc a) (wipeG Γ wj) = some Γ1 ∧ k Γ1 M = some (e a, M)) :
    kIn i g tYesF wj k Γ M = some (l.flatMap e, M) := by
  unfold kIn
  rw [hi]
  exact lcA h
theorem compK_L {g : GF} {t : TF} {k : KF} {Γ : DL.Env} {ds ys : List D} {M : Store} (h : lcLoop g t k Γ ds M = some (ys, M)) (hl : ys.length ≤ sizeLine) : compK g t k finL Γ ds M = some (.ok (.d (.lst ys)) M) := by
  unfold compK
  rw [h]
  exact finL_ok hl
theorem flatMap_one {α β : Type} (l : List α) (f : α → β) : (l.flatMap fun a => [f a]) = l.map f := by
  rw [← List.flatMap_singleton' (l.map f), List.flatMap_map]
theorem flatMap_map' {α β γ : Type} (l : List α) (f : α → List β) (g : β → γ) : (l.flatMap fun a => (f a).map g) = (l.flatMap f).map g := by
  rw [List.map_flatMap]
/-! dicts -/
theorem valD_nil (j : Key) : valD [] j = none := rfl
theorem valD_cons (a : Key × D) (l : List (Key × D)) (j : Key) : valD (a :: l) j = if a.1 = j then some a.2 else valD l j := by
  unfold valD
  rw [List.find?_cons]
  by_cases h : a.1 = j
  · rw [if_pos h, decide_eq_true h]; rfl
  · rw [if_neg h, decide_eq_false h]
theorem valD_append (l m : List (Key × D)) (j : Key) : valD (l ++ m) j = (valD l j).or (valD m j) := by
  induction l with
  | nil => rfl
  | cons a l ih =>
    rw [List.cons_append, valD_cons, valD_cons, ih]
    split <;> rfl
theorem valD_map (l : List (Key × D)) (k : Key) (v : D) (j : Key) : valD (l.map fun kv => if kv.1 = k then (kv.1, v) else kv) j = if k = j then (valD l j).map fun _ => v else valD l j := by
  induction l with
  | nil => by_cases h : k = j <;> simp [valD_nil]
  | cons a l ih =>
    rw [List.map_cons, valD_cons, valD_cons, ih]
    by_cases h : k = j
    · subst h
      by_cases h2 : a.1 = k <;> simp [h2]
    · by_cases h2 : a.1 = k
      · have h3 : ¬ a.1 = j := fun z => h (h2.symm.trans z)
        simp [h, h2]
      · simp [h, h2]
theorem any_valD (l : List (Key × D)) (k : Key) : (l.any fun kv => decide (kv.1 = k)) = (valD l k).isSome := by
  induction l with
  | nil => rfl
  | cons a l ih =>
    rw [List.any_cons, valD_cons, ih]
    by_cases h : a.1 = k <;> simp [h]
theorem valD_putD (l : List (Key × D)) (k : Key) (v : D) (j : Key) : valD (putD l k v) j = if k = j then some v else valD l j := by
  unfold putD
  rw [any_valD]
  by_cases h : (valD l k).isSome = true
  · rw [if_pos h, valD_map]
    by_cases hk : k = j
    · subst hk
      obtain ⟨d, hd⟩ := Option.isSome_iff_exists.mp h
      rw [if_pos rfl, if_pos rfl, hd]; rfl
    · rw [if_neg hk, if_neg hk]
  · rw [if_neg h, valD_append, valD_cons, valD_nil]
    by_cases hk : k = j
    · subst hk
      have : valD l k = none := by cases z : valD l k with
        | none => rfl
        | some d => rw [z] at h; exact absurd rfl h
      rw [if_pos rfl, if_pos rfl, this]; rfl
    · rw [if_neg hk, if_neg hk]
      cases valD l j <;> rfl
theorem len_putD (l : List (Key × D)) (k : Key) (v : D) : (putD l k v).length ≤ l.length + 1 := by
  unfold putD
  split <;> simp
theorem dstar_ok {f g h : EF} {Γ : DL.Env} {M : Store} {kvs : List (Key × D)} {n : Str} {v : D} (hf : ∀ M, f Γ M = some (.ok (.d (.dic kvs)) M)) (hg : ∀ M, g Γ M = some (.ok (.d (.str n)) M)) (hh : ∀ M, h Γ M = some (.ok (.d v) M)) (hl : kvs.length < sizeLine) :
    eDStar f g h Γ M = some (.ok (.r M.length) (M ++ [.dic (putD kvs (.inr n) v)])) := by
  unfold eDStar
  simp [hf, hg, hh, dicOf, notAt, isEmp, hl, keyO]
  rw [List.take_append, List.take_of_length_le (Nat.le_succ _)]
  simp
theorem frz_new {Γ : DL.Env} {M : Store} {i : Nat} {kvs : List (Key × D)} (h : Γ[i]? = some (some (.r M.length))) : frzE i Γ (M ++ [.dic kvs]) = some (.nx (Γ.set i (some (.d (.dic kvs)))) (M ++ [.dead])) := by
  unfold frzE
  rw [h]
  simp
@[simp] theorem sFrz_ap {u : SF} {Γ : DL.Env} {M : Store} (i : Nat) : sFrz i u Γ M = seqK (u Γ M) (frzE i) := by
  unfold sFrz seqK
  cases u Γ M with
  | none => rfl
  | some o => cases o <;> rfl
theorem minI_cast (ns : List Nat) : minI (ns.map fun n : Nat => (n : Int)) = match ns with
  | [] => none
  | a :: l => some ((l.foldl min a : Nat) : Int) := by
  cases ns with
  | nil => rfl
  | cons a l =>
    have go : ∀ (l : List Nat) (a : Nat), (l.map fun n : Nat => (n : Int)).foldl min (a : Int) = ((l.foldl min a : Nat) : Int) := by
      intro l
      induction l with
      | nil => intro a; rfl
      | cons b l ih =>
        intro a
        rw [List.map_cons, List.foldl_cons, List.foldl_cons, ← ih]
        congr 1
        omega
    show some ((l.map fun n : Nat => (n : Int)).foldl min (a : Int)) = _
    rw [go]
theorem whF_seq {t : TF} {u v : SF} {n : Nat} {Γ : DL.Env} {M : Store} {o : Option SO} (I : Nat → DL.Env → Store → Prop) (J : DL.Env → Store → Prop) (m : Nat) (hn : m < n)
    (st : ∀ k Γ M, I k Γ M → (∃ M1, t Γ M = some (.ok false M1) ∧ J Γ M1) ∨ ∃ M1 Γ' M' k', t Γ M = some (.ok true M1) ∧ (u Γ M1 = some (.nx Γ' M') ∨ u Γ M1 = some (.ct Γ' M')) ∧ k' < k ∧ I k' Γ' M') (h : I m Γ M)
    (k : ∀ Γ' M', J Γ' M' → v Γ' M' = o) : seqK (whF t u n Γ M) v = o := by
  obtain ⟨Γ', M', h1, h2⟩ := whF_inv I J hn st h
  rw [h1]
  exact k Γ' M' h2
theorem whF_Q {t : TF} {u v : SF} {n : Nat} {Γ : DL.Env} {M : Store} (Q : Option SO → Prop) (I : Nat → DL.Env → Store → Prop) (J : DL.Env → Store → Prop) (m : Nat) (hn : m < n)
    (st : ∀ k Γ M, I k Γ M → (∃ M1, t Γ M = some (.ok false M1) ∧ J Γ M1) ∨ ∃ M1 Γ' M' k', t Γ M = some (.ok true M1) ∧ (u Γ M1 = some (.nx Γ' M') ∨ u Γ M1 = some (.ct Γ' M')) ∧ k' < k ∧ I k' Γ' M') (h : I m Γ M)
    (k : ∀ Γ' M', J Γ' M' → Q (v Γ' M')) : Q (seqK (whF t u n Γ M) v) := by
  obtain ⟨Γ', M', h1, h2⟩ := whF_inv I J hn st h
  rw [h1]
  exact k Γ' M' h2
theorem forM_Q {α : Type} {l : List α} {enc : α → D} {g : GF} {u v : SF} {Γ : DL.Env} {M : Store} (Q : Option SO → Prop) (I : List α → DL.Env → Store → Prop) (st : ∀ a r Γ M, I (a :: r) Γ M → ∃ Γ1, g (enc a) Γ = some Γ1 ∧ ∃ Γ' M', u Γ1 M = some (.nx Γ' M') ∧ I r Γ' M') (h : I l Γ M)
    (k : ∀ Γ' M', I [] Γ' M' → Q (v Γ' M')) : Q (seqK (forF g u (l.map enc) Γ M) v) := by
  obtain ⟨Γ', M', h1, h2⟩ := forM I st h
  rw [h1]
  exact k Γ' M' h2
/-! ranges -/
theorem small62_nat {n : Nat} (h : n ≤ 1000000) : small62 (n : Int) = true := by
  unfold small62
  rw [Bool.and_eq_true]
  exact ⟨decide_eq_true (by omega), decide_eq_true (by omega)⟩
theorem rangeD_nat {n : Nat} (h : n ≤ 1000000) : rangeD [.int (n : Int)] = some ((List.range n).map fun i : Nat => D.int (0 + (i : Int))) := by
  show (if small62 (n : Int) = true then some (intsD 0 (n : Int).toNat) else none) = _
  rw [small62_nat h, if_pos rfl]
  rfl
theorem iRange_nat {f : EF} {Γ : DL.Env} {M : Store} {n : Nat} (hf : f Γ M = some (.ok (.d (.int (n : Int))) M)) (h : n ≤ 1000000) : iRange (aCons f aNil) Γ M = some (.ok ((List.range n).map fun i : Nat => D.int (0 + (i : Int))) M) := by
  rw [iRange_ap, aCons_ap, hf, bnd_ok, aNil_ap, bnd_ok, bnd_ok, allD_cons, allD_nil, Option.map_some, Option.bind_some, rangeD_nat h]
  rfl
theorem sFor_rw {i : IF} {g : GF} {u : SF} {Γ : DL.Env} {M M1 : Store} {ds : List D} (h : i Γ M = some (.ok ds M1)) : sFor i g u Γ M = forF g u ds Γ M1 := by
  rw [sFor_ap, h, bndS_ok]
end
end DL

set_option Elab.async false
set_option linter.all false
set_option maxRecDepth 100000
set_option autoImplicit false
set_option maxHeartbeats 1000000
/-! sorted: by keys that are lists of numbers -/
namespace DL
open PySem PySem.Spec PyProof.Rows L2
section
variable {α : Type}
theorem insR_perm' (r : D → Nat) (x : D) : ∀ l, (insR r x l).Perm (x :: l)
  | [] => List.Perm.refl _
  | y :: l => by
    unfold insR
    split
    · exact List.Perm.refl _
    · exact ((insR_perm' r x l).cons y).trans (List.Perm.swap x y l)
theorem isortR_perm' (r : D → Nat) : ∀ l, (isortR r l).Perm l
  | [] => List.Perm.refl _
  | x :: l => (insR_perm' r x _).trans ((isortR_perm' r l).cons x)
theorem insR_srt' {r : D → Nat} {x : D} : ∀ {l : List D}, l.Pairwise (fun a b => r a ≤ r b) → (insR r x l).Pairwise fun a b => r a ≤ r b
  | [], _ => List.pairwise_singleton _ _
  | y :: l, h => by
    unfold insR
    split
    · rename_i hx
      refine List.pairwise_cons.mpr ⟨fun z hz => ?_, h⟩
      rcases List.mem_cons.mp hz with rfl | hz
      · exact hx
      · exact Nat.le_trans hx ((List.pairwise_cons.mp h).1 z hz)
    · rename_i hx
      refine List.pairwise_cons.mpr ⟨fun z hz => ?_, insR_srt' (List.pairwise_cons.mp h).2⟩
      rcases List.mem_cons.mp ((insR_perm' r x l).mem_iff.mp hz) with rfl | hz
      · omega
      · exact (List.pairwise_cons.mp h).1 z hz
theorem isortR_srt' (r : D → Nat) : ∀ l : List D, (isortR r l).Pairwise fun a b => r a ≤ r b
  | [] => List.Pairwise.nil
  | x :: l => insR_srt' (isortR_srt' r l)
theorem natL_tri {a b : List Nat} (h1 : ¬ a < b) (h2 : ¬ b < a) : a = b := List.le_antisymm (as := a) (bs := b) h2 h1
theorem perm_map_inv {α β : Type} {f : α → β} : ∀ {m : List β} {l : List α}, m.Perm (l.map f) → ∃ l' : List α, m = l'.map f ∧ l'.Perm l := by
  have go : ∀ {m k : List β}, m.Perm k → ∀ l : List α, k = l.map f → ∃ l' : List α, m = l'.map f ∧ l'.Perm l := by
    intro m k h
    induction h with
    | nil => intro l e; cases l with
      | nil => exact ⟨[], rfl, .nil⟩
      | cons a l => cases e
    | cons x h ih => intro l e; cases l with
      | nil => cases e
      | cons a l =>
        rw [List.map_cons] at e
        injection e with e1 e2
        obtain ⟨l', h1, h2⟩ := ih l e2
        exact ⟨a :: l', by rw [e1, h1, List.map_cons], h2.cons a⟩
    | swap x y l0 => intro l e; cases l with
      | nil => cases e
      | cons a l => cases l with
        | nil => cases e
        | cons b l =>
          rw [List.map_cons, List.map_cons] at e
          injection e with e1 e2
          injection e2 with e2 e3
          exact ⟨b :: a :: l, by rw [e1, e2, e3, List.map_cons, List.map_cons], List.Perm.swap a b l⟩
    | trans h1 h2 ih1 ih2 =>
      intro l e
      obtain ⟨l', e1, p1⟩ := ih2 l e
      obtain ⟨l2, e2, p2⟩ := ih1 l' e1
      exact ⟨l2, e2, p2.trans p1⟩
  intro m l h
  exact go h l rfl
/-- two arrangements in order are one -/
theorem srt_uniq {κ : α → List Nat} : ∀ {a b : List α}, a.Perm b → a.Pairwise (fun x y => ¬ κ y < κ x) → b.Pairwise (fun x y => ¬ κ y < κ x) → (∀ x ∈ a, ∀ y ∈ a, κ x = κ y → x = y) → a = b
  | [], b, p, _, _, _ => List.Perm.nil_eq p
  | x :: a, [], p, _, _, _ => absurd p.length_eq (by simp)
  | x :: a, y :: b, p, ha, hb, ht => by
    have hx : x ∈ y :: b := p.mem_iff.mp List.mem_cons_self
    have hy : y ∈ x :: a := p.mem_iff.mpr List.mem_cons_self
    have irr : ∀ z : α, ¬ κ z < κ z := fun z h => List.lt_irrefl _ h
    have e : x = y := by
      refine ht x List.mem_cons_self y hy (natL_tri ?_ ?_)
      · rcases List.mem_cons.mp hx with rfl | hx
        · exact irr _
        · exact (List.pairwise_cons.mp hb).1 x hx
      · rcases List.mem_cons.mp hy with rfl | hy
        · exact irr _
        · exact (List.pairwise_cons.mp ha).1 y hy
    subst e
    rw [srt_uniq (List.Perm.cons_inv p) (List.pairwise_cons.mp ha).2 (List.pairwise_cons.mp hb).2 fun x hx y hy => ht x (List.mem_cons_of_mem _ hx) y (List.mem_cons_of_mem _ hy)]
theorem filt_le {l : List α} {p q : α → Bool} (h : ∀ a ∈ l, p a = true → q a = true) : (l.filter p).length ≤ (l.filter q).length := by
  induction l with
  | nil => exact Nat.le_refl _
  | cons a l ih =>
    have ih := ih fun b hb => h b (List.mem_cons_of_mem _ hb)
    rw [List.filter_cons, List.filter_cons]
    cases hp : p a with
    | true => rw [h a List.mem_cons_self hp]; simpa using ih
    | false => cases q a <;> simp <;> omega
theorem filt_lt {l : List α} {p q : α → Bool} (h : ∀ a ∈ l, p a = true → q a = true) {b : α} (hb : b ∈ l) (h1 : p b = false) (h2 : q b = true) : (l.filter p).length < (l.filter q).length := by
  induction l with
  | nil => cases hb
  | cons a l ih =>
    rw [List.filter_cons, List.filter_cons]
    rcases List.mem_cons.mp hb with e | e
    · subst e
      rw [h1, h2]
      have := filt_le fun c hc => h c (List.mem_cons_of_mem _ hc)
      simp; omega
    · have ih := ih (fun c hc => h c (List.mem_cons_of_mem _ hc)) e
      cases hp : p a with
      | true => rw [h a List.mem_cons_self hp]; simpa using ih
      | false => cases q a <;> simp <;> omega
theorem sort_enc (enc : α → D) (κ : α → List Nat) (l : List α) (inj : ∀ a ∈ l, ∀ b ∈ l, κ a = κ b → a = b) (hc : ∀ a ∈ l, ∀ b ∈ l, cmpD (enc a) (enc b) = some (decide (κ a < κ b))) (hs : ∀ a ∈ l, sameD (enc a) (enc a) = true)
    (kind : kindOk (l.map enc) = true) (pl_ : ∀ a ∈ l, pl (enc a) = true ∧ dep (enc a) ≤ 100) : ∃ l' : List α, sortedL (l.map enc) = some (l'.map enc) ∧ l'.Perm l ∧ l'.Pairwise fun a b => ¬ κ b < κ a := by
  have hr : ∀ a ∈ l, rnk (l.map enc) (enc a) = (l.filter fun e => decide (κ e < κ a)).length := fun a ha => by
    unfold rnk
    rw [List.filter_map, List.length_map]
    congr 1
    refine List.filter_congr fun e he => ?_
    show (cmpD (enc e) (enc a) == some true) = _
    rw [hc e he a ha]
    cases decide (κ e < κ a) <;> rfl
  have lt_iff : ∀ a ∈ l, ∀ b ∈ l, (rnk (l.map enc) (enc a) < rnk (l.map enc) (enc b)) ↔ κ a < κ b := fun a ha b hb => by
    rw [hr a ha, hr b hb]
    constructor
    · intro h
      by_cases z : κ a < κ b
      · exact z
      · refine absurd (filt_le (l := l) (p := fun e => decide (κ e < κ b)) (q := fun e => decide (κ e < κ a)) fun e he h1 => ?_) (by omega)
        have h1 := of_decide_eq_true h1
        by_cases z2 : κ b < κ a
        · exact decide_eq_true (List.lt_trans h1 z2)
        · rw [natL_tri z z2]; exact decide_eq_true h1
    · intro h
      exact filt_lt (fun e he h1 => decide_eq_true (List.lt_trans (of_decide_eq_true h1) h)) ha (decide_eq_false (List.lt_irrefl _)) (decide_eq_true h)
  have ok : sortOk (l.map enc) = true := by
    unfold sortOk
    rw [kind]
    simp only [Bool.true_and, Bool.and_eq_true, List.all_map, List.all_eq_true]
    refine ⟨fun a ha => ?_, fun a ha => List.all_eq_true.mpr fun b hb => ?_⟩
    · show (pl (enc a) && decide (dep (enc a) ≤ 100)) = true
      rw [(pl_ a ha).1, decide_eq_true (pl_ a ha).2]; rfl
    · show (cmpD (enc a) (enc b) == some (decide (rnk (l.map enc) (enc a) < rnk (l.map enc) (enc b))) && (rnk (l.map enc) (enc a) != rnk (l.map enc) (enc b) || sameD (enc a) (enc b))) = true
      rw [hc a ha b hb, Bool.and_eq_true]
      refine ⟨?_, ?_⟩
      · rw [decide_eq_decide.mpr (lt_iff a ha b hb)]
        cases decide (κ a < κ b) <;> rfl
      · by_cases he : rnk (l.map enc) (enc a) = rnk (l.map enc) (enc b)
        · have h1 : ¬ κ a < κ b := fun z => by have := (lt_iff a ha b hb).mpr z; omega
          have h2 : ¬ κ b < κ a := fun z => by have := (lt_iff b hb a ha).mpr z; omega
          have := inj a ha b hb (natL_tri h1 h2)
          subst this
          rw [hs a ha]; simp
        · rw [bne_iff_ne.mpr he]; rfl
  obtain ⟨l', h1, h2⟩ := perm_map_inv (isortR_perm' (rnk (l.map enc)) (l.map enc))
  refine ⟨l', ?_, h2, ?_⟩
  · unfold sortedL
    rw [ok, Bool.or_true, if_pos rfl, h1]
  · have := isortR_srt' (rnk (l.map enc)) (l.map enc)
    rw [h1, List.pairwise_map] at this
    refine List.Pairwise.imp_of_mem (fun {a b} ha hb h z => ?_) this
    have := (lt_iff b (h2.mem_iff.mp hb) a (h2.mem_iff.mp ha)).mpr z
    omega
end
/-! texts -/
def kS (x : Str) : List Nat := x.cps.toList
theorem kS_inj {x y : Str} (h : kS x = kS y) : x = y := by
  obtain ⟨a⟩ := x
  obtain ⟨b⟩ := y
  have h : a.toList = b.toList := h
  rw [Array.toList_inj.mp h]
theorem isS_strs (ss : List Str) : (ss.map D.str).all isS = true := by
  rw [List.all_map]
  exact List.all_eq_true.mpr fun _ _ => rfl
theorem sort_strs (ss : List Str) : ∃ l' : List Str, sortedL (ss.map .str) = some (l'.map .str) ∧ l'.Perm ss ∧ l'.Pairwise fun a b => ¬ kS b < kS a := by
  refine sort_enc D.str kS ss (fun a _ b _ h => kS_inj h) (fun a _ b _ => rfl) (fun a _ => by show decide (a = a) = true; simp) ?_ fun a _ => ⟨rfl, Nat.zero_le _⟩
  unfold kindOk
  rw [isS_strs]
  simp
/-- sorted texts: however they came -/
theorem sort_strs_perm {s t l : List Str} (p : t.Perm s) (h : sortedL (s.map .str) = some (l.map .str)) : sortedL (t.map .str) = some (l.map .str) := by
  obtain ⟨l1, h1, p1, w1⟩ := sort_strs s
  obtain ⟨l2, h2, p2, w2⟩ := sort_strs t
  rw [h1] at h
  rw [h2, ← h, srt_uniq (κ := kS) (p2.trans (p.trans p1.symm)) w2 w1 fun x _ y _ h => kS_inj h]
end DL

set_option Elab.async false
set_option linter.all false
set_option maxRecDepth 100000
set_option autoImplicit false
set_option maxHeartbeats 1000000
/-! great ints, indices, dice -/
namespace DL
open PySem PySem.Spec PyProof.Rows L2
theorem ib_le {x : Int} {m : Nat} (h : x.natAbs < 2 ^ m) : Builtin.Int.intBits x ≤ m := by
  unfold Builtin.Int.intBits
  split
  · exact Nat.zero_le _
  · rename_i hx
    have h0 : x.natAbs ≠ 0 := fun z => hx (by simp at z; simp [z])
    have := (Nat.log2_lt h0).mpr h
    omega
theorem powD_ok {i n : Int} (hn : 0 ≤ n) (hn2 : n ≤ 1000) (hi : i.natAbs < 2 ^ 3000) : powD (.int i) (.int n) = some (.int (i ^ n.toNat)) := by
  show (if powC i n = true then some (D.int (i ^ n.toNat)) else none) = _
  rw [if_pos]
  unfold powC
  rw [Bool.and_eq_true]
  refine ⟨decide_eq_true hn, decide_eq_true ?_⟩
  have h := ib_le hi
  have h2 : ((Builtin.Int.intBits i : Nat) : Int) * n ≤ 3000 * 1000 := Int.mul_le_mul (by omega) hn2 hn (by omega)
  omega
theorem mulA_ok {i j : Int} (hi : i.natAbs < 2 ^ 5000) (hj : j.natAbs < 2 ^ 5000) : mulA (.int i) (.int j) = some (.int (i * j)) := by
  have hc : mulC i j = true := by
    unfold mulC
    have := ib_le hi
    have := ib_le hj
    exact decide_eq_true (by omega)
  show (match (if mulC i j = true then some (D.int (i * j)) else none) with | some d => some d | none => _) = _
  rw [if_pos hc]
theorem modD_ok {i j : Int} (h : 0 < j) : modD (.int i) (.int j) = some (.int (i % j)) := by
  show (if modC i j = true then some (D.int (i % j)) else none) = _
  have hc : modC i j = true := decide_eq_true h
  rw [if_pos hc]
theorem divD_ok {i j : Int} (h : 0 < j) (h2 : j < 2 ^ 200) : divD (.int i) (.int j) = some (.int (i / j)) := by
  show (if divC i j = true then some (D.int (i / j)) else none) = _
  rw [if_pos]
  unfold divC
  rw [Bool.and_eq_true]
  refine ⟨decide_eq_true h, decide_eq_true ?_⟩
  have h0 : j.natAbs ≠ 0 := by omega
  have : j.natAbs < 2 ^ 200 := by omega
  have := (Nat.log2_lt h0).mpr this
  omega
@[simp] theorem intD_int {i : Int} : intD [.int i] = some (.int i) := rfl
@[simp] theorem intD_bl {b : Bool} : intD [.bl b] = some (.int (if b then 1 else 0)) := rfl
@[simp] theorem absD_int {i : Int} : absD [.int i] = some (.int (if i < 0 then -i else i)) := rfl
end DL

set_option Elab.async false
set_option linter.all false
set_option maxRecDepth 100000
set_option autoImplicit false
set_option maxHeartbeats 1000000
/-! sources of draws, great ints, texts shown -/
namespace DL
open PySem PySem.Spec PyProof.Rows L2
/-- a source of draws at the cell i, at most n of its numbers taken -/
def Dz (i n : Nat) (M : Store) : Prop := ∃ a b c : Int, M[i]? = some (.lst [.int a, .int b, .int c]) ∧ 0 ≤ b ∧ b < 2 ^ 62 ∧ 0 ≤ c ∧ c ≤ n
/-- nothing but the cell i -/
structure Fr (i : Nat) (M M' : Store) : Prop where
  ln : M'.length = M.length
  el : ∀ j, j ≠ i → M'[j]? = M[j]?
theorem Fr.rfl' {i : Nat} {M : Store} : Fr i M M := ⟨rfl, fun _ _ => rfl⟩
theorem Fr.trans {i : Nat} {M M' M'' : Store} (a : Fr i M M') (b : Fr i M' M'') : Fr i M M'' := ⟨b.ln.trans a.ln, fun j h => (b.el j h).trans (a.el j h)⟩
theorem Fr.set {i : Nat} {M : Store} (c : Cell) : Fr i M (M.set i c) := ⟨by simp, fun j h => List.getElem?_set_ne (Ne.symm h)⟩
theorem Dz.mono {i n m : Nat} {M : Store} (h : n ≤ m) : Dz i n M → Dz i m M := fun ⟨a, b, c, h1, h2, h3, h4, h5⟩ => ⟨a, b, c, h1, h2, h3, h4, by omega⟩
theorem Dz.lt {i n : Nat} {M : Store} : Dz i n M → i < M.length := fun ⟨_, _, _, h, _⟩ => (List.getElem?_eq_some_iff.mp h).1
theorem ixA_0 (a b c : D) : ixA (.lst [a, b, c]) (.int 0) = some a := rfl
theorem ixA_1 (a b c : D) : ixA (.lst [a, b, c]) (.int 1) = some b := rfl
theorem ixA_2 (a b c : D) : ixA (.lst [a, b, c]) (.int 2) = some c := rfl
theorem putC_0 (a b c d : D) : putC (.lst [a, b, c]) (.int 0) d = some (.lst [d, b, c]) := rfl
theorem putC_2 (a b c d : D) : putC (.lst [a, b, c]) (.int 2) d = some (.lst [a, b, d]) := rfl
theorem cutF_d {M M' : Store} {x : D} (h : M'.length = M.length) : cutF M.length (some (.ok (.d x) M')) = some (.ok (.d x) M') := by
  unfold cutF
  show some (Out.ok (W.d x) (M'.take M.length)) = _
  rw [← h, List.take_length]
theorem big_small {x : Int} (h : x.natAbs < 2 ^ 100) : x.natAbs < 2 ^ 5000 := Nat.lt_of_lt_of_le h (Nat.pow_le_pow_right (by decide) (by decide))
theorem big_small3 {x : Int} (h : x.natAbs < 2 ^ 100) : x.natAbs < 2 ^ 3000 := Nat.lt_of_lt_of_le h (Nat.pow_le_pow_right (by decide) (by decide))
def tenG (n : Nat) : Int := (10 ^ 60) ^ n
theorem tenG_pos (n : Nat) : 0 < tenG n := by unfold tenG; exact Int.pow_pos (Int.pow_pos (by decide))
theorem tenG_big {n : Nat} (hn : n ≤ 20) : (tenG n).natAbs < 2 ^ 5000 := by
  unfold tenG
  rw [Int.natAbs_pow, Int.natAbs_pow]
  have h : ((10 : Int).natAbs ^ 60) ^ n = 10 ^ (60 * n) := by rw [← Nat.pow_mul]; rfl
  rw [h]
  have h2 : (10 : Nat) ^ (60 * n) ≤ 16 ^ (60 * n) := Nat.pow_le_pow_left (by decide) _
  have h3 : (16 : Nat) ^ (60 * n) = 2 ^ (4 * (60 * n)) := by rw [show (16 : Nat) = 2 ^ 4 from rfl, ← Nat.pow_mul]
  rw [h3] at h2
  exact Nat.lt_of_le_of_lt h2 (Nat.pow_lt_pow_right (by decide) (by omega))
theorem pow_tenG {n : Nat} (hn : n ≤ 20) : (powD (.int 10) (.int 60)).bind (fun d => powD d (.int (n : Int))) = some (.int (tenG n)) := by
  rw [powD_ok (by decide) (by decide) (big_small3 (by decide)), Option.bind_some]
  have h : ((10 : Int) ^ (60 : Int).toNat).natAbs < 2 ^ 3000 := by
    rw [Int.natAbs_pow]
    have h2 : (10 : Int).natAbs ^ (60 : Int).toNat ≤ 16 ^ 60 := Nat.pow_le_pow_left (by decide) _
    have h3 : (16 : Nat) ^ 60 = 2 ^ 240 := by rw [show (16 : Nat) = 2 ^ 4 from rfl, ← Nat.pow_mul]
    rw [h3] at h2
    exact Nat.lt_of_le_of_lt h2 (Nat.pow_lt_pow_right (by decide) (by decide))
  rw [powD_ok (by omega) (by omega) h]
  rfl
theorem pow_18 : powD (.int 10) (.int 18) = some (.int 1000000000000000000) := by
  rw [powD_ok (by decide) (by decide) (big_small3 (by decide))]; rfl
theorem ixA_rolI {ns : List Int} {k : Nat} (h : k < ns.length) : ∃ c, ixA (.rol (ns.map .int)) (.int (k : Int)) = some (.int c) :=
  ⟨ns[k], ixA_rol k (by rw [List.getElem?_map, List.getElem?_eq_getElem h]; rfl)⟩
/-- the cell that a def hands back, alone -/
theorem cutC_new {M M1 : Store} {c : Cell} (h2 : M1.length = M.length + 1) (e1 : M1[M.length]? = some c) : M1.take M.length ++ [c] = M1 := by
  conv => rhs; rw [← List.take_append_drop M.length M1]
  congr 1
  have : M1.drop M.length = [M1[M.length]'(by omega)] := by
    rw [← List.getElem_cons_drop (by omega : M.length < M1.length), List.drop_of_length_le (by omega)]
  rw [this]
  rw [List.getElem?_eq_getElem (by omega)] at e1
  rw [Option.some.inj e1]
theorem cutC_r {M M' : Store} {k : Nat} {c : Cell} (hk : M.length ≤ k) (h : M'[k]? = some c) : cutC M.length (some (.ok (.r k) M')) = some (.ok (.r M.length) (M'.take M.length ++ [c])) := by
  show (if M.length ≤ k then (M'[k]?).map fun c => Out.ok (W.r M.length) (M'.take M.length ++ [c]) else none) = _
  rw [if_pos hk, h]; rfl
end DL

set_option Elab.async false
set_option linter.all false
set_option maxRecDepth 100000
set_option autoImplicit false
set_option maxHeartbeats 4000000
namespace K00
open PySem PySem.Spec PyProof.Rows L2 DL
def XF_ : XF := [("UnknownName", "name"), ("InvalidNumber", "value"), ("TooMany", "limit"), ("Knotted", "paper"), ("Apart", "place"), ("NothingToUndo", "many")]
def XB_ : XB := [("LookError", ["LookError"], ["ValueError"]), ("InvalidTypes", ["InvalidTypes", "LookError"], ["ValueError"]), ("InvalidValue", ["InvalidValue", "LookError"], ["ValueError"]), ("InvalidPattern", ["InvalidPattern", "LookError"], ["ValueError"]), ("InvalidMatch", ["InvalidMatch", "LookError"], ["ValueError"]), ("InvalidHalf", ["InvalidHalf", "LookError"], ["ValueError"]), ("InvalidTester", ["InvalidTester", "LookError"], ["ValueError"]), ("InvalidProgram", ["InvalidProgram", "LookError"], ["ValueError"]), ("InvalidGraph", ["InvalidGraph", "LookError"], ["ValueError"]), ("InvalidOperation", ["InvalidOperation", "LookError"], ["ValueError"]), ("ParseError", ["LookError", "ParseError"], ["ValueError"]), ("InvalidCommand", ["InvalidCommand", "LookError"], ["ValueError"]), ("UnknownName", ["UnknownName"], ["KeyError", "LookupError"]), ("InvalidNumber", ["InvalidNumber"], ["IndexError", "LookupError"]), ("TooMany", ["TooMany"], ["ArithmeticError", "OverflowError"]), ("Knotted", ["Knotted"], ["ArithmeticError"]), ("Apart", ["Apart"], ["RuntimeError"]), ("NothingToUndo", ["NothingToUndo"], ["LookupError"])]
def XO_ : List Str := ["Apart", "InvalidCommand", "InvalidGraph", "InvalidHalf", "InvalidMatch", "InvalidNumber", "InvalidOperation", "InvalidPattern", "InvalidProgram", "InvalidTester", "InvalidTypes", "InvalidValue", "Knotted", "LookError", "NothingToUndo", "ParseError", "TooMany", "UnknownName"]
def XT_ : List String := ["ArithmeticError", "IndexError", "KeyError", "LookupError", "OverflowError", "RuntimeError", "ValueError"]
abbrev N__law_dice : List Str := ["_law_script", "_law_at", "_law_cell", "_law_great", "_law_seed"]
def u__law_dice : SF :=
  sSeq (sSet 2 (eIf (tBl (eOp ltD (eVar 1) (eCall lenA (aCons (eVar 0) aNil)))) (eOp ixA (eVar 0) (eVar 1)) (eOp addD (eOp mulA (eC (.int 29)) (eVar 1)) (eC (.int 7))))) (sSeq (sSet 3 (eOp modD (eCall intD (aCons (eCall absD (aCons (eVar 2) aNil)) aNil)) (eOp powD (eOp powD (eC (.int 10)) (eC (.int 60))) (eC (.int 12))))) (sSeq (sSet 4 (eOp addD (eOp addD (eOp addD (eOp mulA (eC (.int 3)) (eOp modD (eCall intD (aCons (eVar 3) aNil)) (eC (.int 2305843009213693951)))) (eOp mulA (eC (.int 2)) (eVar 1))) (eCall intD (aCons (eOp ltD (eVar 2) (eC (.int 0))) aNil))) (eC (.int 1)))) (sRet (eLstC (aCons (eOp divD (eVar 3) (eOp powD (eC (.int 10)) (eC (.int 18)))) (aCons (eOp modD (eCall intD (aCons (eOp powD (eVar 4) (eC (.int 3))) aNil)) (eC (.int 2305843009213693921))) (aCons (eC (.int 0)) aNil)))))))
abbrev N__law_roll : List Str := ["_law_dice_here", "_law_upto", "_law_one", "_law_two", "_law_found"]
def u__law_roll : SF :=
  sSeq (sIf (tBl (eOp gtD (eOp ixA (eVar 0) (eC (.int 0))) (eC (.int 0)))) (sSeq (sSet 4 (eOp modD (eCall intD (aCons (eOp ixA (eVar 0) (eC (.int 0))) aNil)) (eVar 1))) (sSeq (sPut (eOp divD (eOp ixA (eVar 0) (eC (.int 0))) (eVar 1)) (eVar 0) (eC (.int 0))) (sRet (eVar 4)))) sNx) (sSeq (sPut (eOp addD (eOp ixA (eVar 0) (eC (.int 2))) (eC (.int 1))) (eVar 0) (eC (.int 2))) (sSeq (sSet 2 (eOp modD (eCall intD (aCons (eOp addD (eOp ixA (eVar 0) (eC (.int 1))) (eOp mulA (eC (.int 1000000007)) (eOp ixA (eVar 0) (eC (.int 2))))) aNil)) (eC (.int 2305843009213693907)))) (sSeq (sSet 3 (eOp addD (eOp mulA (eOp modD (eCall intD (aCons (eOp mulA (eVar 2) (eVar 2)) aNil)) (eC (.int 2305843009213693921))) (eVar 2)) (eOp mulA (eC (.int 7919)) (eOp ixA (eVar 0) (eC (.int 2)))))) (sRet (eOp modD (eCall intD (aCons (eOp divD (eOp modD (eCall intD (aCons (eVar 3) aNil)) (eC (.int 2305843009213693951))) (eC (.int 4093))) aNil)) (eVar 1))))))
abbrev N__law_one_of : List Str := ["_law_dice_here", "_law_items"]
def u__law_one_of : SF :=
  sRet (eOp ixA (eVar 1) (eCallF (runB N__law_roll u__law_roll) (aCons (eVar 0) (aCons (eCall lenA (aCons (eVar 1) aNil)) aNil))))
abbrev N__law_kinds : List Str := ["_law_error", "_law_found"]
def u__law_kinds : SF :=
  sSeq (sSet 1 (eLst (aCons (eCall (isXA XB_ XO_ XT_) (aCons (eVar 0) (aCons (eC (.cls "InvalidTypes")) aNil))) (aCons (eCall (isXA XB_ XO_ XT_) (aCons (eVar 0) (aCons (eC (.cls "InvalidValue")) aNil))) (aCons (eCall (isXA XB_ XO_ XT_) (aCons (eVar 0) (aCons (eC (.cls "InvalidPattern")) aNil))) aNil))))) (sSeq (sSet 1 (eOp addD (eVar 1) (eLst (aCons (eCall (isXA XB_ XO_ XT_) (aCons (eVar 0) (aCons (eC (.cls "InvalidMatch")) aNil))) (aCons (eCall (isXA XB_ XO_ XT_) (aCons (eVar 0) (aCons (eC (.cls "InvalidHalf")) aNil))) (aCons (eCall (isXA XB_ XO_ XT_) (aCons (eVar 0) (aCons (eC (.cls "InvalidTester")) aNil))) aNil)))))) (sSeq (sSet 1 (eOp addD (eVar 1) (eLst (aCons (eCall (isXA XB_ XO_ XT_) (aCons (eVar 0) (aCons (eC (.cls "InvalidProgram")) aNil))) (aCons (eCall (isXA XB_ XO_ XT_) (aCons (eVar 0) (aCons (eC (.cls "InvalidGraph")) aNil))) aNil))))) (sSeq (sSet 1 (eOp addD (eVar 1) (eLst (aCons (eCall (isXA XB_ XO_ XT_) (aCons (eVar 0) (aCons (eC (.cls "InvalidOperation")) aNil))) (aCons (eCall (isXA XB_ XO_ XT_) (aCons (eVar 0) (aCons (eC (.cls "ParseError")) aNil))) aNil))))) (sRet (eOp addD (eVar 1) (eLst (aCons (eCall (isXA XB_ XO_ XT_) (aCons (eVar 0) (aCons (eC (.cls "InvalidCommand")) aNil))) aNil)))))))
abbrev N__law_bases : List Str := ["_law_error", "_law_found"]
def u__law_bases : SF :=
  sSeq (sSet 1 (eLst (aCons (eCall (isXA XB_ XO_ XT_) (aCons (eVar 0) (aCons (eC (.ty "ValueError")) aNil))) (aCons (eCall (isXA XB_ XO_ XT_) (aCons (eVar 0) (aCons (eC (.ty "KeyError")) aNil))) (aCons (eCall (isXA XB_ XO_ XT_) (aCons (eVar 0) (aCons (eC (.ty "IndexError")) aNil))) aNil))))) (sSeq (sSet 1 (eOp addD (eVar 1) (eLst (aCons (eCall (isXA XB_ XO_ XT_) (aCons (eVar 0) (aCons (eC (.ty "LookupError")) aNil))) (aCons (eCall (isXA XB_ XO_ XT_) (aCons (eVar 0) (aCons (eC (.ty "OverflowError")) aNil))) aNil))))) (sRet (eOp addD (eVar 1) (eLst (aCons (eCall (isXA XB_ XO_ XT_) (aCons (eVar 0) (aCons (eC (.ty "RuntimeError")) aNil))) (aCons (eCall (isXA XB_ XO_ XT_) (aCons (eVar 0) (aCons (eC (.ty "ArithmeticError")) aNil))) aNil))))))
abbrev N__law_others : List Str := ["_law_error", "_law_found"]
def u__law_others : SF :=
  sSeq (sSet 1 (eLst (aCons (eCall (isXA XB_ XO_ XT_) (aCons (eVar 0) (aCons (eC (.cls "UnknownName")) aNil))) (aCons (eCall (isXA XB_ XO_ XT_) (aCons (eVar 0) (aCons (eC (.cls "InvalidNumber")) aNil))) (aCons (eCall (isXA XB_ XO_ XT_) (aCons (eVar 0) (aCons (eC (.cls "TooMany")) aNil))) aNil))))) (sSeq (sSet 1 (eOp addD (eVar 1) (eLst (aCons (eCall (isXA XB_ XO_ XT_) (aCons (eVar 0) (aCons (eC (.cls "Knotted")) aNil))) (aCons (eCall (isXA XB_ XO_ XT_) (aCons (eVar 0) (aCons (eC (.cls "Apart")) aNil))) aNil))))) (sRet (eOp addD (eVar 1) (eLst (aCons (eCall (isXA XB_ XO_ XT_) (aCons (eVar 0) (aCons (eC (.cls "NothingToUndo")) aNil))) aNil)))))
abbrev N__law_messages_right : List Str := ["_law_text", "_law_some", "_law_at", "_law_error", "_law_whole", "_law_other"]
def u__law_messages_right : SF :=
  sSeq (sSet 1 (eLst (aCons (eMkX "InvalidTypes" (eVar 0)) (aCons (eMkX "InvalidValue" (eVar 0)) (aCons (eMkX "InvalidPattern" (eVar 0)) (aCons (eMkX "InvalidMatch" (eVar 0)) (aCons (eMkX "InvalidHalf" (eVar 0)) aNil))))))) (sSeq (sSet 1 (eOp addD (eVar 1) (eLst (aCons (eMkX "InvalidTester" (eVar 0)) (aCons (eMkX "InvalidProgram" (eVar 0)) (aCons (eMkX "InvalidGraph" (eVar 0)) (aCons (eMkX "InvalidOperation" (eVar 0)) aNil))))))) (sSeq (sSet 1 (eOp addD (eVar 1) (eLst (aCons (eMkX "ParseError" (eVar 0)) (aCons (eMkX "InvalidCommand" (eVar 0)) aNil))))) (sSeq (sFor (iEnumF (aCons (eVar 1) aNil)) (gTp 2 (gsCons (gNm 2) (gsCons (gNm 3) gsNil))) (sSeq (sIf (tOr (tBl (eOp neOp (eCallP (runB N__law_kinds u__law_kinds) (aCons (eVar 3) aNil)) (eComp (iRange (aCons (eC (.int 11)) aNil)) (gNm 5) tYesF [5] (kElt (eOp eqOp (eVar 5) (eVar 2))) finL))) (tNot (tTru (eCall (isXA XB_ XO_ XT_) (aCons (eVar 3) (aCons (eC (.cls "LookError")) aNil)))))) (sRet (eC (.bl false))) sNx) (sIf (tOr (tBl (eOp neOp (eCallP (runB N__law_bases u__law_bases) (aCons (eVar 3) aNil)) (eOp addD (eLst (aCons (eC (.bl true)) aNil)) (eOp mulA (eLst (aCons (eC (.bl false)) aNil)) (eC (.int 6)))))) (tBl (eOp inA (eC (.bl true)) (eCallP (runB N__law_others u__law_others) (aCons (eVar 3) aNil))))) (sRet (eC (.bl false))) sNx))) (sSeq (sSet 4 (eMkX "LookError" (eVar 0))) (sSeq (sIf (tOr (tBl (eOp neOp (eCallP (runB N__law_kinds u__law_kinds) (aCons (eVar 4) aNil)) (eOp mulA (eLst (aCons (eC (.bl false)) aNil)) (eC (.int 11))))) (tBl (eOp inA (eC (.bl true)) (eCallP (runB N__law_others u__law_others) (aCons (eVar 4) aNil))))) (sRet (eC (.bl false))) sNx) (sRet (eOp eqOp (eCallP (runB N__law_bases u__law_bases) (aCons (eVar 4) aNil)) (eOp addD (eLst (aCons (eC (.bl true)) aNil)) (eOp mulA (eLst (aCons (eC (.bl false)) aNil)) (eC (.int 6)))))))))))
abbrev N__law_values_right : List Str := ["_law_dice_here", "_law_some", "_law_things", "_law_kept", "_law_bases_here", "_law_at", "_law_error", "_law_other"]
def u__law_values_right : SF :=
  sSeq (sSet 1 (eLst (aCons (eC .non) (aCons (eC (.int 0)) (aCons (eUn negD (eC (.int 1))) (aCons (eC (.str "a")) (aCons (eTup aNil) (aCons (eTup (aCons (eC (.str "a")) (aCons (eC (.int 0)) aNil))) (aCons (eLst (aCons (eC (.int 1)) aNil)) (aCons (eFz eDict0) (aCons (eOp powD (eC (.int 10)) (eC (.int 39))) (aCons (eC (.bl true)) aNil)))))))))))) (sSeq (sSet 2 (eLst (aCons (eCallF (runB N__law_one_of u__law_one_of) (aCons (eVar 0) (aCons (eVar 1) aNil))) (aCons (eCallF (runB N__law_one_of u__law_one_of) (aCons (eVar 0) (aCons (eVar 1) aNil))) (aCons (eCallF (runB N__law_one_of u__law_one_of) (aCons (eVar 0) (aCons (eLst (aCons (eC (.int 12)) (aCons (eC (.int 60)) (aCons (eC (.int 2000)) (aCons (eC (.int 5000)) aNil))))) aNil))) aNil))))) (sSeq (sSet 2 (eOp addD (eVar 2) (eLst (aCons (eCallF (runB N__law_one_of u__law_one_of) (aCons (eVar 0) (aCons (eLst (aCons (eTup (aCons (eC (.str "knot")) (aCons (eTup aNil) (aCons (eTup aNil) aNil)))) (aCons (eTup (aCons (eC (.str "knot")) (aCons (eTup (aCons (eC (.int 1)) aNil)) (aCons (eTup (aCons (eTup (aCons (eC (.int 0)) aNil)) aNil)) aNil)))) aNil))) aNil))) aNil)))) (sSeq (sSet 2 (eOp addD (eVar 2) (eLst (aCons (eCallF (runB N__law_one_of u__law_one_of) (aCons (eVar 0) (aCons (eLst (aCons (eTup (aCons (eC (.int 0)) aNil)) (aCons (eTup (aCons (eC (.int 1)) (aCons (eC (.int 0)) aNil))) (aCons (eTup (aCons (eC (.int 0)) (aCons (eC (.int 1)) (aCons (eC (.int 2)) aNil)))) aNil)))) aNil))) (aCons (eCallF (runB N__law_one_of u__law_one_of) (aCons (eVar 0) (aCons (eLst (aCons (eC (.int 1)) (aCons (eC (.int 2)) (aCons (eOp powD (eC (.int 10)) (eC (.int 39))) aNil)))) aNil))) aNil))))) (sSeq (sSet 1 (eLst (aCons (eMkF "UnknownName" "name" (aCons (eOp ixA (eVar 2) (eC (.int 0))) aNil)) (aCons (eMkF "InvalidNumber" "value" (aCons (eOp ixA (eVar 2) (eC (.int 1))) aNil)) (aCons (eMkF "TooMany" "limit" (aCons (eOp ixA (eVar 2) (eC (.int 2))) aNil)) (aCons (eMkF "Knotted" "paper" (aCons (eOp ixA (eVar 2) (eC (.int 3))) aNil)) (aCons (eMkF "Apart" "place" (aCons (eOp ixA (eVar 2) (eC (.int 4))) aNil)) aNil))))))) (sSeq (sSet 1 (eOp addD (eVar 1) (eLst (aCons (eMkF "NothingToUndo" "many" (aCons (eOp ixA (eVar 2) (eC (.int 5))) aNil)) aNil)))) (sSeq (sSet 3 (eLst (aCons (eFx XF_ "name" (eOp ixA (eVar 1) (eC (.int 0)))) (aCons (eFx XF_ "value" (eOp ixA (eVar 1) (eC (.int 1)))) (aCons (eFx XF_ "limit" (eOp ixA (eVar 1) (eC (.int 2)))) (aCons (eFx XF_ "paper" (eOp ixA (eVar 1) (eC (.int 3)))) (aCons (eFx XF_ "place" (eOp ixA (eVar 1) (eC (.int 4)))) (aCons (eFx XF_ "many" (eOp ixA (eVar 1) (eC (.int 5)))) aNil)))))))) (sSeq (sIf (tBl (eOp neOp (eCall reprD (aCons (eVar 3) aNil)) (eCall reprD (aCons (eVar 2) aNil)))) (sRet (eC (.bl false))) sNx) (sSeq (sSet 4 (eLst (aCons (eLst (aCons (eC (.int 1)) (aCons (eC (.int 3)) aNil))) (aCons (eLst (aCons (eC (.int 2)) (aCons (eC (.int 3)) aNil))) (aCons (eLst (aCons (eC (.int 4)) (aCons (eC (.int 6)) aNil))) (aCons (eLst (aCons (eC (.int 6)) aNil)) (aCons (eLst (aCons (eC (.int 5)) aNil)) (aCons (eLst (aCons (eC (.int 3)) aNil)) aNil)))))))) (sSeq (sFor (iEnumF (aCons (eVar 1) aNil)) (gTp 2 (gsCons (gNm 5) (gsCons (gNm 6) gsNil))) (sSeq (sIf (tOr (tBl (eOp neOp (eCallP (runB N__law_others u__law_others) (aCons (eVar 6) aNil)) (eComp (iRange (aCons (eC (.int 6)) aNil)) (gNm 7) tYesF [7] (kElt (eOp eqOp (eVar 7) (eVar 5))) finL))) (tBl (eOp inA (eC (.bl true)) (eCallP (runB N__law_kinds u__law_kinds) (aCons (eVar 6) aNil))))) (sRet (eC (.bl false))) sNx) (sIf (tOr (tTru (eCall (isXA XB_ XO_ XT_) (aCons (eVar 6) (aCons (eC (.cls "LookError")) aNil)))) (tBl (eOp neOp (eCallP (runB N__law_bases u__law_bases) (aCons (eVar 6) aNil)) (eComp (iRange (aCons (eC (.int 7)) aNil)) (gNm 7) tYesF [7] (kElt (eOp inA (eVar 7) (eOp ixA (eVar 4) (eVar 5)))) finL)))) (sRet (eC (.bl false))) sNx))) (sRet (eC (.bl true))))))))))))
abbrev N_law : List Str := ["_law_script", "_law_at", "_law_dice_here", "_law_text"]
def u_law : SF :=
  sSeq (sFor (iRange (aCons (eCall max2D (aCons (eC (.int 1)) (aCons (eCall min2D (aCons (eC (.int 6)) (aCons (eCall lenA (aCons (eVar 0) aNil)) aNil))) aNil))) aNil)) (gNm 1) (sSeq (sSet 2 (eCallC' (runB N__law_dice u__law_dice) (aCons (eVar 0) (aCons (eVar 1) aNil)))) (sSeq (sSet 3 (eCallF (runB N__law_one_of u__law_one_of) (aCons (eVar 2) (aCons (eLst (aCons (eC (.str "a match is expected")) (aCons (eC (.str "")) (aCons (eC (.str "x")) (aCons (eC (.str "two words")) aNil))))) aNil)))) (sIf (tOr (tNot (tTru (eCallP (runB N__law_messages_right u__law_messages_right) (aCons (eVar 3) aNil)))) (tNot (tTru (eCallF (runB N__law_values_right u__law_values_right) (aCons (eVar 2) aNil))))) (sRet (eC (.bl false))) sNx)))) (sRet (eC (.bl true)))
end K00

set_option Elab.async false
set_option linter.all false
set_option maxRecDepth 100000
set_option autoImplicit false
set_option maxHeartbeats 1000000
namespace K00
open PySem PySem.Spec PyProof.Rows L2 DL
theorem r_roll {i t n : Nat} {M : Store} (hd : Dz i n M) (ht : 0 < t) (ht2 : t ≤ 1000) (hn : n ≤ 1000000) :
    ∃ (r : Nat) (M' : Store), runB N__law_roll u__law_roll [.r i, .d (.int (t : Int))] M = some (.ok (.d (.int (r : Int))) M') ∧ r < t ∧ Dz i (n + 1) M' ∧ Fr i M M' := by
  obtain ⟨a, b, c, hM, hb, hb2, hc, hc2⟩ := hd
  have hi : i < M.length := (List.getElem?_eq_some_iff.mp hM).1
  have rdi : rd M (.r i) = some (.lst [.int a, .int b, .int c]) := by rw [rd_r hM]; rfl
  have ht' : (0 : Int) < (t : Int) := by omega
  rw [runB_ap]
  by_cases ha : a > 0
  · have h0 : 0 ≤ a % (t : Int) := Int.emod_nonneg _ (by omega)
    have h1 : a % (t : Int) < t := Int.emod_lt_of_pos _ ht'
    refine ⟨(a % (t : Int)).toNat, M.set i (.lst [.int (a / t), .int b, .int c]), ?_, by omega, ⟨a / t, b, c, by rw [List.getElem?_set_self hi], hb, hb2, hc, by omega⟩, Fr.set _⟩
    rw [Int.toNat_of_nonneg h0]
    have hm : modD (.int a) (.int (t : Int)) = some (.int (a % t)) := modD_ok ht'
    have hdv : divD (.int a) (.int (t : Int)) = some (.int (a / t)) := divD_ok ht' (by omega)
    unfold u__law_roll sPut
    simp [startG, rd2_ap, rdi, ixA_0, ha, hm, hdv, hM, putC_0]
  · have ha' : ¬ (0 < a) := ha
    have hm1 : mulA (.int 1000000007) (.int (c + 1)) = some (.int (1000000007 * (c + 1))) := mulA_ok (big_small (by decide)) (big_small (by omega))
    generalize hone : (b + 1000000007 * (c + 1)) % 2305843009213693907 = one
    have ho1 : 0 ≤ one := by rw [← hone]; exact Int.emod_nonneg _ (by decide)
    have ho2 : one < 2305843009213693907 := by rw [← hone]; exact Int.emod_lt_of_pos _ (by decide)
    have hd1 : modD (.int (b + 1000000007 * (c + 1))) (.int 2305843009213693907) = some (.int one) := by rw [modD_ok (by decide), hone]
    have hm2 : mulA (.int one) (.int one) = some (.int (one * one)) := mulA_ok (big_small (by omega)) (big_small (by omega))
    generalize htw : one * one % 2305843009213693921 = tw
    have ht1 : 0 ≤ tw := by rw [← htw]; exact Int.emod_nonneg _ (by decide)
    have ht3 : tw < 2305843009213693921 := by rw [← htw]; exact Int.emod_lt_of_pos _ (by decide)
    have hd2 : modD (.int (one * one)) (.int 2305843009213693921) = some (.int tw) := by rw [modD_ok (by decide), htw]
    have hm3 : mulA (.int tw) (.int one) = some (.int (tw * one)) := mulA_ok (big_small (by omega)) (big_small (by omega))
    have hm4 : mulA (.int 7919) (.int (c + 1)) = some (.int (7919 * (c + 1))) := mulA_ok (big_small (by decide)) (big_small (by omega))
    generalize htt : (tw * one + 7919 * (c + 1)) % 2305843009213693951 = two
    have hd3 : modD (.int (tw * one + 7919 * (c + 1))) (.int 2305843009213693951) = some (.int two) := by rw [modD_ok (by decide), htt]
    have hd4 : divD (.int two) (.int 4093) = some (.int (two / 4093)) := divD_ok (by decide) (by decide)
    have hd5 : modD (.int (two / 4093)) (.int (t : Int)) = some (.int (two / 4093 % t)) := modD_ok ht'
    have h0 : 0 ≤ two / 4093 % (t : Int) := Int.emod_nonneg _ (by omega)
    have h1 : two / 4093 % (t : Int) < t := Int.emod_lt_of_pos _ ht'
    have hM2 : (M.set i (.lst [.int a, .int b, .int (c + 1)]))[i]? = some (.lst [.int a, .int b, .int (c + 1)]) := by rw [List.getElem?_set_self hi]
    refine ⟨(two / 4093 % (t : Int)).toNat, M.set i (.lst [.int a, .int b, .int (c + 1)]), ?_, by omega, ⟨a, b, c + 1, hM2, hb, hb2, by omega, by omega⟩, Fr.set _⟩
    rw [Int.toNat_of_nonneg h0]
    have rd2i : rd (M.set i (.lst [.int a, .int b, .int (c + 1)])) (.r i) = some (.lst [.int a, .int b, .int (c + 1)]) := by rw [rd_r hM2]; rfl
    have s1 : sPut (eOp addD (eOp ixA (eVar 0) (eC (.int 2))) (eC (.int 1))) (eVar 0) (eC (.int 2)) [some (.r i), some (.d (.int (t : Int))), none, none, none] M = some (.nx [some (.r i), some (.d (.int (t : Int))), none, none, none] (M.set i (.lst [.int a, .int b, .int (c + 1)]))) := by
      unfold sPut
      simp [rd2_ap, rdi, ixA_2, hM, putC_2]
    unfold u__law_roll
    rw [sSeq_ap]
    have s0 : ∀ u : SF, sIf (tBl (eOp gtD (eOp ixA (eVar 0) (eC (.int 0))) (eC (.int 0)))) u sNx (startG N__law_roll [.r i, .d (.int (t : Int))]) M = some (.nx [some (.r i), some (.d (.int (t : Int))), none, none, none] M) := fun u => by
      simp [startG, rd2_ap, rdi, ixA_0, ha']
    rw [s0, seqK_nx, sSeq_ap, s1, seqK_nx]
    generalize M.set i (.lst [.int a, .int b, .int (c + 1)]) = M2 at rd2i ⊢
    simp [rd2_ap, rd2i, ixA_1, ixA_2, hm1, hd1, hm2, hd2, hm3, hm4, hd3, hd4, hd5]
/-- a roll in an expression -/
theorem e_roll {i t n : Nat} {Γ : DL.Env} {M : Store} {ft : EF} {v : Nat} (hv : Γ[v]? = some (some (.r i))) (hf : ft Γ M = some (.ok (.d (.int (t : Int))) M)) (hd : Dz i n M) (ht : 0 < t) (ht2 : t ≤ 1000) (hn : n ≤ 1000000) :
    ∃ (r : Nat) (M' : Store), eCallF (runB N__law_roll u__law_roll) (aCons (eVar v) (aCons ft aNil)) Γ M = some (.ok (.d (.int (r : Int))) M') ∧ r < t ∧ Dz i (n + 1) M' ∧ Fr i M M' := by
  obtain ⟨r, M', h1, h2, h3, h4⟩ := r_roll hd ht ht2 hn
  refine ⟨r, M', ?_, h2, h3, h4⟩
  simp [hv, hf, h1, cutF_d h4.ln]
theorem r_one_of {i n : Nat} {M : Store} {xs : List D} (hd : Dz i n M) (h0 : 0 < xs.length) (h1 : xs.length ≤ 1000) (hn : n ≤ 1000000) :
    ∃ (x : D) (M' : Store), runB N__law_one_of u__law_one_of [.r i, .d (.lst xs)] M = some (.ok (.d x) M') ∧ x ∈ xs ∧ Dz i (n + 1) M' ∧ Fr i M M' := by
  obtain ⟨r, M', g1, g2, g3, g4⟩ := e_roll (Γ := startG N__law_one_of [.r i, .d (.lst xs)]) (v := 0) (ft := eCall lenA (aCons (eVar 1) aNil)) (t := xs.length) rfl (by simp [startG]) hd h0 h1 hn
  obtain ⟨x, hx⟩ : ∃ x, xs[r]? = some x := ⟨xs[r], List.getElem?_eq_getElem g2⟩
  refine ⟨x, M', ?_, List.mem_of_getElem? hx, g3, g4⟩
  rw [runB_ap]
  unfold u__law_one_of
  rw [sRet_ap, eOp_ap, eVar_ap]
  rw [show varK (startG N__law_one_of [.r i, .d (.lst xs)])[1]? M = some (.ok (.d (.lst xs)) M) from rfl, bnd_ok, g1, bnd_ok, rd2_dd, ixA_lst r hx]
  rfl
theorem r_dice {ns : List Int} {k : Nat} {M : Store} (hk : k ≤ 1000) (hl : ns.length ≤ 1000) : ∃ M', runB N__law_dice u__law_dice [.d (.rol (ns.map .int)), .d (.int (k : Int))] M = some (.ok (.r M.length) M') ∧ M'.length = M.length + 1 ∧ Dz M.length 0 M' := by
  rw [runB_ap]
  unfold u__law_dice
  have hlen : (ns.map D.int).length = ns.length := List.length_map ..
  have s1 : ∃ c : Int, (sSet 2 (eIf (tBl (eOp ltD (eVar 1) (eCall lenA (aCons (eVar 0) aNil)))) (eOp ixA (eVar 0) (eVar 1)) (eOp addD (eOp mulA (eC (.int 29)) (eVar 1)) (eC (.int 7))))) (startG N__law_dice [.d (.rol (ns.map .int)), .d (.int (k : Int))]) M = some (.nx [some (.d (.rol (ns.map .int))), some (.d (.int (k : Int))), some (.d (.int c)), none, none] M) := by
    have hm : mulA (.int 29) (.int (k : Int)) = some (.int (29 * k)) := mulA_ok (big_small (by decide)) (big_small (by omega))
    by_cases h : k < ns.length
    · obtain ⟨c, hc⟩ := ixA_rolI h
      have h' : (k : Int) < (ns.length : Int) := by omega
      exact ⟨c, by simp [startG, hc, h]⟩
    · exact ⟨29 * k + 7, by simp [startG, h, hm]⟩
  obtain ⟨c, s1⟩ := s1
  rw [sSeq_ap, s1, seqK_nx]
  have s2 : ∃ g : Int, (sSet 3 (eOp modD (eCall intD (aCons (eCall absD (aCons (eVar 2) aNil)) aNil)) (eOp powD (eOp powD (eC (.int 10)) (eC (.int 60))) (eC (.int 12))))) [some (.d (.rol (ns.map .int))), some (.d (.int (k : Int))), some (.d (.int c)), none, none] M = some (.nx [some (.d (.rol (ns.map .int))), some (.d (.int (k : Int))), some (.d (.int c)), some (.d (.int g)), none] M) ∧ 0 ≤ g ∧ g.natAbs < 2 ^ 5000 := by
    refine ⟨(if c < 0 then -c else c) % tenG 12, ?_, Int.emod_nonneg _ (by have := tenG_pos 12; omega), ?_⟩
    · obtain ⟨d, hd1, hd2⟩ := Option.bind_eq_some_iff.mp (pow_tenG (n := 12) (by decide))
      have hd2 : powD d (.int 12) = some (.int (tenG 12)) := hd2
      have hmd : modD (.int (if c < 0 then -c else c)) (.int (tenG 12)) = some (.int ((if c < 0 then -c else c) % tenG 12)) := modD_ok (tenG_pos 12)
      rw [sSet_ap, eOp_ap, eCall_ap, aCons_ap, eCall_ap, aCons_ap, eVar_ap]
      simp only [List.getElem?_cons_zero, List.getElem?_cons_succ, varK_some, bnd_ok, aNil_ap, rds_d, rds_nil, Option.map_some, callK_some, absD_int, resK_some, intD_int]
      rw [eOp_ap, eOp_ap, eC_ap, bnd_ok, eC_ap, bnd_ok, rd2_dd, hd1, resK_some, bnd_ok, eC_ap, bnd_ok, rd2_dd, hd2, resK_some, bnd_ok, rd2_dd, hmd, resK_some, bndS_ok]
      rfl
    · have h0 := Int.emod_nonneg (if c < 0 then -c else c) (show tenG 12 ≠ 0 by have := tenG_pos 12; omega)
      have h1 := Int.emod_lt_of_pos (if c < 0 then -c else c) (tenG_pos 12)
      exact Nat.lt_of_le_of_lt (by omega) (tenG_big (n := 12) (by decide))
  obtain ⟨g, s2, hg0, hgb⟩ := s2
  rw [sSeq_ap, s2, seqK_nx]
  have s3 : ∃ s : Int, (sSet 4 (eOp addD (eOp addD (eOp addD (eOp mulA (eC (.int 3)) (eOp modD (eCall intD (aCons (eVar 3) aNil)) (eC (.int 2305843009213693951)))) (eOp mulA (eC (.int 2)) (eVar 1))) (eCall intD (aCons (eOp ltD (eVar 2) (eC (.int 0))) aNil))) (eC (.int 1)))) [some (.d (.rol (ns.map .int))), some (.d (.int (k : Int))), some (.d (.int c)), some (.d (.int g)), none] M = some (.nx [some (.d (.rol (ns.map .int))), some (.d (.int (k : Int))), some (.d (.int c)), some (.d (.int g)), some (.d (.int s))] M) ∧ 0 ≤ s ∧ s < 2 ^ 64 := by
    have h0 : 0 ≤ g % 2305843009213693951 := Int.emod_nonneg _ (by decide)
    have h1 : g % 2305843009213693951 < 2305843009213693951 := Int.emod_lt_of_pos _ (by decide)
    have hmd : modD (.int g) (.int 2305843009213693951) = some (.int (g % 2305843009213693951)) := modD_ok (by decide)
    generalize g % 2305843009213693951 = gm at h0 h1 hmd
    have hm0 : mulA (.int 3) (.int gm) = some (.int (3 * gm)) := mulA_ok (big_small (by decide)) (big_small (by omega))
    have hm1 : mulA (.int 2) (.int (k : Int)) = some (.int (2 * k)) := mulA_ok (big_small (by decide)) (big_small (by omega))
    cases hc : decide (c < 0) with
    | true =>
      refine ⟨3 * gm + 2 * k + 1 + 1, ?_, by omega, by omega⟩
      have hc' : c < 0 := of_decide_eq_true hc
      simp [hmd, hm0, hm1, hc']
    | false =>
      refine ⟨3 * gm + 2 * k + 0 + 1, ?_, by omega, by omega⟩
      have hc' : ¬ c < 0 := of_decide_eq_false hc
      simp [hmd, hm0, hm1, hc']
  obtain ⟨s, s3, hs0, hs1⟩ := s3
  rw [sSeq_ap, s3, seqK_nx]
  have h0 : 0 ≤ s ^ 3 % 2305843009213693921 := Int.emod_nonneg _ (by decide)
  have h1 : s ^ 3 % 2305843009213693921 < 2305843009213693921 := Int.emod_lt_of_pos _ (by decide)
  have hp3 : powD (.int s) (.int 3) = some (.int (s ^ 3)) := powD_ok (by decide) (by decide) (big_small3 (by omega))
  have hmd3 : modD (.int (s ^ 3)) (.int 2305843009213693921) = some (.int (s ^ 3 % 2305843009213693921)) := modD_ok (by decide)
  generalize s ^ 3 % 2305843009213693921 = b at h0 h1 hmd3
  have hdv : divD (.int g) (.int 1000000000000000000) = some (.int (g / 1000000000000000000)) := divD_ok (by decide) (by decide)
  have s6 : (sRet (eLstC (aCons (eOp divD (eVar 3) (eOp powD (eC (.int 10)) (eC (.int 18)))) (aCons (eOp modD (eCall intD (aCons (eOp powD (eVar 4) (eC (.int 3))) aNil)) (eC (.int 2305843009213693921))) (aCons (eC (.int 0)) aNil))))) [some (.d (.rol (ns.map .int))), some (.d (.int (k : Int))), some (.d (.int c)), some (.d (.int g)), some (.d (.int s))] M = some (.rt (.r M.length) (M ++ [.lst [.int (g / 1000000000000000000), .int b, .int 0]])) := by
    simp [hp3, hmd3, pow_18, hdv]
  rw [s6]
  refine ⟨_, rfl, by simp, g / 1000000000000000000, b, 0, by simp, h0, by omega, by omega, by omega⟩
end K00

set_option Elab.async false
set_option linter.all false
set_option maxRecDepth 100000
set_option autoImplicit false
set_option maxHeartbeats 1000000
namespace K00
open PySem PySem.Spec PyProof.Rows L2 DL
def vr1 : SF := sSet 1 (eLst (aCons (eC .non) (aCons (eC (.int 0)) (aCons (eUn negD (eC (.int 1))) (aCons (eC (.str "a")) (aCons (eTup aNil) (aCons (eTup (aCons (eC (.str "a")) (aCons (eC (.int 0)) aNil))) (aCons (eLst (aCons (eC (.int 1)) aNil)) (aCons (eFz eDict0) (aCons (eOp powD (eC (.int 10)) (eC (.int 39))) (aCons (eC (.bl true)) aNil)))))))))))
def vr2 : SF := sSet 2 (eLst (aCons (eCallF (runB N__law_one_of u__law_one_of) (aCons (eVar 0) (aCons (eVar 1) aNil))) (aCons (eCallF (runB N__law_one_of u__law_one_of) (aCons (eVar 0) (aCons (eVar 1) aNil))) (aCons (eCallF (runB N__law_one_of u__law_one_of) (aCons (eVar 0) (aCons (eLst (aCons (eC (.int 12)) (aCons (eC (.int 60)) (aCons (eC (.int 2000)) (aCons (eC (.int 5000)) aNil))))) aNil))) aNil))))
def vr3 : SF := sSet 2 (eOp addD (eVar 2) (eLst (aCons (eCallF (runB N__law_one_of u__law_one_of) (aCons (eVar 0) (aCons (eLst (aCons (eTup (aCons (eC (.str "knot")) (aCons (eTup aNil) (aCons (eTup aNil) aNil)))) (aCons (eTup (aCons (eC (.str "knot")) (aCons (eTup (aCons (eC (.int 1)) aNil)) (aCons (eTup (aCons (eTup (aCons (eC (.int 0)) aNil)) aNil)) aNil)))) aNil))) aNil))) aNil)))
def vr4 : SF := sSet 2 (eOp addD (eVar 2) (eLst (aCons (eCallF (runB N__law_one_of u__law_one_of) (aCons (eVar 0) (aCons (eLst (aCons (eTup (aCons (eC (.int 0)) aNil)) (aCons (eTup (aCons (eC (.int 1)) (aCons (eC (.int 0)) aNil))) (aCons (eTup (aCons (eC (.int 0)) (aCons (eC (.int 1)) (aCons (eC (.int 2)) aNil)))) aNil)))) aNil))) (aCons (eCallF (runB N__law_one_of u__law_one_of) (aCons (eVar 0) (aCons (eLst (aCons (eC (.int 1)) (aCons (eC (.int 2)) (aCons (eOp powD (eC (.int 10)) (eC (.int 39))) aNil)))) aNil))) aNil))))
def vr5 : SF := sSet 1 (eLst (aCons (eMkF "UnknownName" "name" (aCons (eOp ixA (eVar 2) (eC (.int 0))) aNil)) (aCons (eMkF "InvalidNumber" "value" (aCons (eOp ixA (eVar 2) (eC (.int 1))) aNil)) (aCons (eMkF "TooMany" "limit" (aCons (eOp ixA (eVar 2) (eC (.int 2))) aNil)) (aCons (eMkF "Knotted" "paper" (aCons (eOp ixA (eVar 2) (eC (.int 3))) aNil)) (aCons (eMkF "Apart" "place" (aCons (eOp ixA (eVar 2) (eC (.int 4))) aNil)) aNil))))))
def vr6 : SF := sSet 1 (eOp addD (eVar 1) (eLst (aCons (eMkF "NothingToUndo" "many" (aCons (eOp ixA (eVar 2) (eC (.int 5))) aNil)) aNil)))
def vr7 : SF := sSet 3 (eLst (aCons (eFx XF_ "name" (eOp ixA (eVar 1) (eC (.int 0)))) (aCons (eFx XF_ "value" (eOp ixA (eVar 1) (eC (.int 1)))) (aCons (eFx XF_ "limit" (eOp ixA (eVar 1) (eC (.int 2)))) (aCons (eFx XF_ "paper" (eOp ixA (eVar 1) (eC (.int 3)))) (aCons (eFx XF_ "place" (eOp ixA (eVar 1) (eC (.int 4)))) (aCons (eFx XF_ "many" (eOp ixA (eVar 1) (eC (.int 5)))) aNil)))))))
def vr8 : SF := sIf (tBl (eOp neOp (eCall reprD (aCons (eVar 3) aNil)) (eCall reprD (aCons (eVar 2) aNil)))) (sRet (eC (.bl false))) sNx
def vr9 : SF := sSet 4 (eLst (aCons (eLst (aCons (eC (.int 1)) (aCons (eC (.int 3)) aNil))) (aCons (eLst (aCons (eC (.int 2)) (aCons (eC (.int 3)) aNil))) (aCons (eLst (aCons (eC (.int 4)) (aCons (eC (.int 6)) aNil))) (aCons (eLst (aCons (eC (.int 6)) aNil)) (aCons (eLst (aCons (eC (.int 5)) aNil)) (aCons (eLst (aCons (eC (.int 3)) aNil)) aNil)))))))
def vr10 : SF := sFor (iEnumF (aCons (eVar 1) aNil)) (gTp 2 (gsCons (gNm 5) (gsCons (gNm 6) gsNil))) (sSeq (sIf (tOr (tBl (eOp neOp (eCallP (runB N__law_others u__law_others) (aCons (eVar 6) aNil)) (eComp (iRange (aCons (eC (.int 6)) aNil)) (gNm 7) tYesF [7] (kElt (eOp eqOp (eVar 7) (eVar 5))) finL))) (tBl (eOp inA (eC (.bl true)) (eCallP (runB N__law_kinds u__law_kinds) (aCons (eVar 6) aNil))))) (sRet (eC (.bl false))) sNx) (sIf (tOr (tTru (eCall (isXA XB_ XO_ XT_) (aCons (eVar 6) (aCons (eC (.cls "LookError")) aNil)))) (tBl (eOp neOp (eCallP (runB N__law_bases u__law_bases) (aCons (eVar 6) aNil)) (eComp (iRange (aCons (eC (.int 7)) aNil)) (gNm 7) tYesF [7] (kElt (eOp inA (eVar 7) (eOp ixA (eVar 4) (eVar 5)))) finL)))) (sRet (eC (.bl false))) sNx))
def vr11 : SF := sRet (eC (.bl true))
theorem vr_eq : u__law_values_right = sSeq vr1 (sSeq vr2 (sSeq vr3 (sSeq vr4 (sSeq vr5 (sSeq vr6 (sSeq vr7 (sSeq vr8 (sSeq vr9 (sSeq vr10 (vr11)))))))))) := rfl

theorem listText_le (ts : List Str) : (listText ts).length ≤ piled ts + 2 := by
  unfold listText
  rw [strLen_append]
  cases ts with
  | nil => decide
  | cons a r =>
    show (textFrom 1 (("[" : Str) ++ ("" : String) ++ a) r).length + 1 ≤ _
    rw [textFrom_length_pos r 1 _ (by decide), strLen_append, strLen_append, piled_cons]
    have e1 : ((("[" : String) : Str)).length = 1 := rfl
    have e2 : ((("" : String) : Str)).length = 0 := rfl
    rw [e1, e2]
    omega
/-- what may stand in a list that is shown -/
def okS (p : PyData) : Bool := p.showable && (decide (p.depth ≤ 20) && decide (p.shown.length ≤ 1000))
theorem okS_all : ∀ {ps : List PyData}, (∀ p ∈ ps, okS p = true) → PyData.showableAll ps = true ∧ PyData.depthAll ps ≤ 20 ∧ piled (PyData.shownAll ps) ≤ 1002 * ps.length
  | [], _ => ⟨rfl, Nat.zero_le _, Nat.le_refl _⟩
  | p :: ps, h => by
    obtain ⟨h1, h2, h3⟩ := okS_all fun q hq => h q (List.mem_cons_of_mem _ hq)
    have hp := h p List.mem_cons_self
    unfold okS at hp
    simp only [Bool.and_eq_true, decide_eq_true_eq] at hp
    refine ⟨?_, ?_, ?_⟩
    · simp only [PyData.showableAll, hp.1, h1, Bool.and_self]
    · simp only [PyData.depthAll]
      omega
    · simp only [PyData.shownAll, piled_cons, List.length_cons]
      omega
theorem okShow_list {ps : List PyData} (h : ∀ p ∈ ps, okS p = true) (hl : ps.length ≤ 100) : okShow (.list ps) = true := by
  obtain ⟨h1, h2, h3⟩ := okS_all h
  unfold okShow
  rw [Bool.and_eq_true, Bool.and_eq_true]
  refine ⟨⟨by simpa [PyData.showable] using h1, decide_eq_true ?_⟩, decide_eq_true ?_⟩
  · have := listText_le (PyData.shownAll ps)
    simp only [PyData.shown]
    rw [sizeLine_eq]
    omega
  · simp only [PyData.depth]
    omega
/-- what is shown in the lists here -/
def shD (d : D) : Bool := match pyOf d with
  | some p => okS p
  | none => false
theorem repr_list {xs : List D} (h : ∀ x ∈ xs, shD x = true) (hl : xs.length ≤ 100) : ∃ s, reprD [.lst xs] = some (.str s) := by
  have go : ∀ {xs : List D}, (∀ x ∈ xs, shD x = true) → ∃ ps, pyOfs xs = some ps ∧ ps.length = xs.length ∧ ∀ p ∈ ps, okS p = true := by
    intro xs
    induction xs with
    | nil => intro _; exact ⟨[], rfl, rfl, fun p hp => nomatch hp⟩
    | cons x xs ih =>
      intro h
      obtain ⟨ps, h1, h2, h3⟩ := ih fun y hy => h y (List.mem_cons_of_mem _ hy)
      have hx := h x List.mem_cons_self
      unfold shD at hx
      split at hx
      · rename_i p e
        refine ⟨p :: ps, by simp only [pyOfs, e, h1, Option.bind_some, Option.map_some], by simp [h2], fun q hq => ?_⟩
        rcases List.mem_cons.mp hq with z | z
        · rw [z]; exact hx
        · exact h3 q z
      · cases hx
  obtain ⟨ps, h1, h2, h3⟩ := go h
  refine ⟨(PyData.list ps).shown, ?_⟩
  show (pyOf (.lst xs)).bind _ = _
  have e : pyOf (.lst xs) = some (.list ps) := by simp only [pyOf, h1, Option.map_some]
  rw [e, Option.bind_some, if_pos (okShow_list h3 (by omega))]
/-- one of some things that are written -/
theorem e_one {i n : Nat} {Γ : DL.Env} {M : Store} {ft : EF} {xs : List D} (hv : Γ[0]? = some (some (.r i))) (hf : ft Γ M = some (.ok (.d (.lst xs)) M)) (hd : Dz i n M) (h0 : 0 < xs.length) (h1 : xs.length ≤ 1000) (hn : n ≤ 1000000) :
    ∃ (x : D) (M' : Store), eCallF (runB N__law_one_of u__law_one_of) (aCons (eVar 0) (aCons ft aNil)) Γ M = some (.ok (.d x) M') ∧ x ∈ xs ∧ Dz i (n + 1) M' ∧ Fr i M M' := by
  obtain ⟨x, M', g1, g2, g3, g4⟩ := r_one_of hd h0 h1 hn
  exact ⟨x, M', by simp [hv, hf, g1, cutF_d g4.ln], g2, g3, g4⟩
def some10 : List D := [.non, .int 0, .int (-1), .str "a", .tup [], .tup [.str "a", .int 0], .lst [.int 1], .dic [], .int (10 ^ 39), .bl true]
def some4 : List D := [.int 12, .int 60, .int 2000, .int 5000]
def someK : List D := [.tup [.str "knot", .tup [], .tup []], .tup [.str "knot", .tup [.int 1], .tup [.tup [.int 0]]]]
def someT : List D := [.tup [.int 0], .tup [.int 1, .int 0], .tup [.int 0, .int 1, .int 2]]
def some3 : List D := [.int 1, .int 2, .int (10 ^ 39)]
theorem sh10 : ∀ x ∈ some10, shD x = true := by
  have h : some10.all shD = true := by decide +kernel
  exact List.all_eq_true.mp h
theorem sh4 : ∀ x ∈ some4, shD x = true := by
  have h : some4.all shD = true := by decide +kernel
  exact List.all_eq_true.mp h
theorem shK : ∀ x ∈ someK, shD x = true := by
  have h : someK.all shD = true := by decide +kernel
  exact List.all_eq_true.mp h
theorem shT : ∀ x ∈ someT, shD x = true := by
  have h : someT.all shD = true := by decide +kernel
  exact List.all_eq_true.mp h
theorem sh3 : ∀ x ∈ some3, shD x = true := by
  have h : some3.all shD = true := by decide +kernel
  exact List.all_eq_true.mp h
theorem pow39 : powD (.int 10) (.int 39) = some (.int (10 ^ 39)) := by
  rw [powD_ok (by decide) (by decide) (big_small3 (by decide))]; rfl
@[simp] theorem eFz_ap (f : EF) (Γ : DL.Env) (M : Store) : eFz f Γ M = bnd (f Γ M) fun w M1 => match w with
  | .r j => (rdC M1[j]?).map fun d => .ok (.d d) (M1.set j .dead)
  | .d d => some (.ok (.d d) M1) := rfl
theorem vr1_ok {i : Nat} {M : Store} : vr1 [some (.r i), none, none, none, none, none, none, none] M = some (.nx [some (.r i), some (.d (.lst some10)), none, none, none, none, none, none] (M ++ [.dead])) := by
  unfold vr1 some10
  have hneg : negD (.int 1) = some (.int (-1)) := rfl
  simp [hneg, pow39, eDict0]
theorem vr2_ok {i n : Nat} {M : Store} (hd : Dz i n M) (hn : n ≤ 1000) : ∃ (x0 x1 x2 : D) (M' : Store), vr2 [some (.r i), some (.d (.lst some10)), none, none, none, none, none, none] M = some (.nx [some (.r i), some (.d (.lst some10)), some (.d (.lst [x0, x1, x2])), none, none, none, none, none] M') ∧ x0 ∈ some10 ∧ x1 ∈ some10 ∧ x2 ∈ some4 ∧ Dz i (n + 3) M' ∧ Fr i M M' := by
  obtain ⟨x0, M1, g1, g2, g3, g4⟩ := e_one (Γ := [some (.r i), some (.d (.lst some10)), none, none, none, none, none, none]) (ft := eVar 1) (xs := some10) rfl rfl hd (by decide) (by decide) (by omega)
  obtain ⟨x1, M2, k1, k2, k3, k4⟩ := e_one (Γ := [some (.r i), some (.d (.lst some10)), none, none, none, none, none, none]) (ft := eVar 1) (xs := some10) rfl rfl g3 (by decide) (by decide) (by omega)
  obtain ⟨x2, M3, l1, l2, l3, l4⟩ := e_one (Γ := [some (.r i), some (.d (.lst some10)), none, none, none, none, none, none]) (ft := eLst (aCons (eC (.int 12)) (aCons (eC (.int 60)) (aCons (eC (.int 2000)) (aCons (eC (.int 5000)) aNil))))) (xs := some4) rfl rfl k3 (by decide) (by decide) (by omega)
  refine ⟨x0, x1, x2, M3, ?_, g2, k2, l2, l3, (g4.trans k4).trans l4⟩
  unfold vr2
  rw [sSet_ap, eLst_ap, aCons_ap, g1, bnd_ok, aCons_ap, k1, bnd_ok, aCons_ap, l1, bnd_ok, aNil_ap, bnd_ok, bnd_ok, bnd_ok, bnd_ok]
  rfl
theorem vr3_ok {i n : Nat} {M : Store} {x0 x1 x2 : D} (hd : Dz i n M) (hn : n ≤ 1000) : ∃ (x3 : D) (M' : Store), vr3 [some (.r i), some (.d (.lst some10)), some (.d (.lst [x0, x1, x2])), none, none, none, none, none] M = some (.nx [some (.r i), some (.d (.lst some10)), some (.d (.lst [x0, x1, x2, x3])), none, none, none, none, none] M') ∧ x3 ∈ someK ∧ Dz i (n + 1) M' ∧ Fr i M M' := by
  obtain ⟨x3, M1, g1, g2, g3, g4⟩ := e_one (Γ := [some (.r i), some (.d (.lst some10)), some (.d (.lst [x0, x1, x2])), none, none, none, none, none]) (ft := eLst (aCons (eTup (aCons (eC (.str "knot")) (aCons (eTup aNil) (aCons (eTup aNil) aNil)))) (aCons (eTup (aCons (eC (.str "knot")) (aCons (eTup (aCons (eC (.int 1)) aNil)) (aCons (eTup (aCons (eTup (aCons (eC (.int 0)) aNil)) aNil)) aNil)))) aNil))) (xs := someK) rfl rfl hd (by decide) (by decide) (by omega)
  refine ⟨x3, M1, ?_, g2, g3, g4⟩
  unfold vr3
  rw [sSet_ap, eOp_ap, eVar_ap]
  show bndS _ (bnd (some (Out.ok (W.d (.lst [x0, x1, x2])) M)) _) _ = _
  rw [bnd_ok, eLst_ap, aCons_ap, g1, bnd_ok, aNil_ap, bnd_ok, bnd_ok]
  rfl
theorem vr4_ok {i n : Nat} {M : Store} {x0 x1 x2 x3 : D} (hd : Dz i n M) (hn : n ≤ 1000) : ∃ (x4 x5 : D) (M' : Store), vr4 [some (.r i), some (.d (.lst some10)), some (.d (.lst [x0, x1, x2, x3])), none, none, none, none, none] M = some (.nx [some (.r i), some (.d (.lst some10)), some (.d (.lst [x0, x1, x2, x3, x4, x5])), none, none, none, none, none] M') ∧ x4 ∈ someT ∧ x5 ∈ some3 ∧ Dz i (n + 2) M' ∧ Fr i M M' := by
  obtain ⟨x4, M1, g1, g2, g3, g4⟩ := e_one (Γ := [some (.r i), some (.d (.lst some10)), some (.d (.lst [x0, x1, x2, x3])), none, none, none, none, none]) (ft := eLst (aCons (eTup (aCons (eC (.int 0)) aNil)) (aCons (eTup (aCons (eC (.int 1)) (aCons (eC (.int 0)) aNil))) (aCons (eTup (aCons (eC (.int 0)) (aCons (eC (.int 1)) (aCons (eC (.int 2)) aNil)))) aNil)))) (xs := someT) rfl rfl hd (by decide) (by decide) (by omega)
  obtain ⟨x5, M2, k1, k2, k3, k4⟩ := e_one (Γ := [some (.r i), some (.d (.lst some10)), some (.d (.lst [x0, x1, x2, x3])), none, none, none, none, none]) (ft := eLst (aCons (eC (.int 1)) (aCons (eC (.int 2)) (aCons (eOp powD (eC (.int 10)) (eC (.int 39))) aNil)))) (xs := some3) rfl (by simp [pow39, some3]) g3 (by decide) (by decide) (by omega)
  refine ⟨x4, x5, M2, ?_, g2, k2, k3, g4.trans k4⟩
  unfold vr4
  rw [sSet_ap, eOp_ap, eVar_ap]
  show bndS _ (bnd (some (Out.ok (W.d (.lst [x0, x1, x2, x3])) M)) _) _ = _
  rw [bnd_ok, eLst_ap, aCons_ap, g1, bnd_ok, aCons_ap, k1, bnd_ok, aNil_ap, bnd_ok, bnd_ok, bnd_ok]
  rfl
abbrev errs (x0 x1 x2 x3 x4 x5 : D) : List D := [.exv "UnknownName" [("name", x0)], .exv "InvalidNumber" [("value", x1)], .exv "TooMany" [("limit", x2)], .exv "Knotted" [("paper", x3)], .exv "Apart" [("place", x4)], .exv "NothingToUndo" [("many", x5)]]
def bs5 : D := .lst [.lst [.int 1, .int 3], .lst [.int 2, .int 3], .lst [.int 4, .int 6], .lst [.int 6], .lst [.int 5], .lst [.int 3]]
theorem vr57_ok {i : Nat} {M : Store} {x0 x1 x2 x3 x4 x5 y : D} : (sSeq vr5 (sSeq vr6 vr7)) [some (.r i), some (.d y), some (.d (.lst [x0, x1, x2, x3, x4, x5])), none, none, none, none, none] M =
    some (.nx [some (.r i), some (.d (.lst (errs x0 x1 x2 x3 x4 x5))), some (.d (.lst [x0, x1, x2, x3, x4, x5])), some (.d (.lst [x0, x1, x2, x3, x4, x5])), none, none, none, none] M) := by
  kernel_rfl
theorem vr8_ok {Γ : DL.Env} {M : Store} {xs : List D} (h : ∀ x ∈ xs, shD x = true) (hl : xs.length ≤ 100) (h2 : Γ[2]? = some (some (.d (.lst xs)))) (h3 : Γ[3]? = some (some (.d (.lst xs)))) : vr8 Γ M = some (.nx Γ M) := by
  obtain ⟨s, hs⟩ := repr_list h hl
  have hne : neOp (.str s) (.str s) = some (.bl false) := by simp
  unfold vr8
  simp [h2, h3, hs, hne]
theorem vr911_ok {i : Nat} {M : Store} {x0 x1 x2 x3 x4 x5 y z : D} : (sSeq vr9 (sSeq vr10 vr11)) [some (.r i), some (.d (.lst (errs x0 x1 x2 x3 x4 x5))), some (.d y), some (.d z), none, none, none, none] M = some (.rt (.d (.bl true)) M) := by
  kernel_rfl
end K00

set_option Elab.async false
set_option linter.all false
set_option maxRecDepth 100000
set_option autoImplicit false
set_option maxHeartbeats 1000000
namespace K00
open PySem PySem.Spec PyProof.Rows L2 DL
theorem sSeq_assoc (a b c : SF) : sSeq (sSeq a b) c = sSeq a (sSeq b c) := by
  funext Γ M
  rw [sSeq_ap, sSeq_ap, sSeq_ap]
  cases a Γ M with
  | none => rfl
  | some o => cases o <;> rfl
theorem cutF_take {n : Nat} {M' : Store} {x : D} : cutF n (some (.ok (.d x) M')) = some (.ok (.d x) (M'.take n)) := rfl
theorem r_values {i n : Nat} {M : Store} (hd : Dz i n M) (hn : n ≤ 900) : ∃ M', runB N__law_values_right u__law_values_right [.r i] M = some (.ok (.d (.bl true)) M') := by
  have hi := hd.lt
  have hd1 : Dz i n (M ++ [.dead]) := by
    obtain ⟨a, b, c, h, r⟩ := hd
    exact ⟨a, b, c, by rw [List.getElem?_append_left hi]; exact h, r⟩
  obtain ⟨x0, x1, x2, M2, a1, a2, a3, a4, a5, a6⟩ := vr2_ok hd1 (by omega)
  obtain ⟨x3, M3, b1, b2, b3, b4⟩ := vr3_ok (x0 := x0) (x1 := x1) (x2 := x2) a5 (by omega)
  obtain ⟨x4, x5, M4, c1, c2, c3, c4, c5⟩ := vr4_ok (x0 := x0) (x1 := x1) (x2 := x2) (x3 := x3) b3 (by omega)
  have hs : ∀ x ∈ [x0, x1, x2, x3, x4, x5], shD x = true := by
    intro x hx
    simp only [List.mem_cons, List.not_mem_nil, or_false] at hx
    rcases hx with rfl | rfl | rfl | rfl | rfl | rfl
    · exact sh10 _ a2
    · exact sh10 _ a3
    · exact sh4 _ a4
    · exact shK _ b2
    · exact shT _ c2
    · exact sh3 _ c3
  refine ⟨M4, ?_⟩
  have e57 : ∀ X : SF, sSeq vr5 (sSeq vr6 (sSeq vr7 X)) = sSeq (sSeq vr5 (sSeq vr6 vr7)) X := fun X => by rw [sSeq_assoc, sSeq_assoc]
  rw [runB_ap, vr_eq, e57, show startG N__law_values_right [.r i] = [some (.r i), none, none, none, none, none, none, none] from rfl]
  rw [sSeq_ap, vr1_ok, seqK_nx, sSeq_ap, a1, seqK_nx, sSeq_ap, b1, seqK_nx, sSeq_ap, c1, seqK_nx, sSeq_ap, vr57_ok, seqK_nx, sSeq_ap, vr8_ok hs (by simp) rfl rfl, seqK_nx, vr911_ok]
  rfl
def texts : List Str := ["a match is expected", "", "x", "two words"]
theorem r_messages {t : Str} (h : t ∈ texts) : runP (runB N__law_messages_right u__law_messages_right) [.str t] = some (.ok (.bl true) []) := by
  have all : ∀ t ∈ texts, runP (runB N__law_messages_right u__law_messages_right) [.str t] = some (.ok (.bl true) []) := by
    intro t ht
    simp only [texts, List.mem_cons, List.not_mem_nil, or_false] at ht
    rcases ht with rfl | rfl | rfl | rfl
    · kernel_rfl
    · kernel_rfl
    · kernel_rfl
    · kernel_rfl
  exact all t h
def w_cell : SF := sSeq (sSet 2 (eCallC' (runB N__law_dice u__law_dice) (aCons (eVar 0) (aCons (eVar 1) aNil)))) (sSeq (sSet 3 (eCallF (runB N__law_one_of u__law_one_of) (aCons (eVar 2) (aCons (eLst (aCons (eC (.str "a match is expected")) (aCons (eC (.str "")) (aCons (eC (.str "x")) (aCons (eC (.str "two words")) aNil))))) aNil)))) (sIf (tOr (tNot (tTru (eCallP (runB N__law_messages_right u__law_messages_right) (aCons (eVar 3) aNil)))) (tNot (tTru (eCallF (runB N__law_values_right u__law_values_right) (aCons (eVar 2) aNil))))) (sRet (eC (.bl false))) sNx))
theorem l_cell {ns : List Int} {k : Nat} {o2 o3 : Option W} {M : Store} (hk : k ≤ 1000) (hl : ns.length ≤ 1000) :
    ∃ (o2' o3' : Option W) (M' : Store), w_cell [some (.d (.rol (ns.map .int))), some (.d (.int (0 + (k : Int)))), o2, o3] M = some (.nx [some (.d (.rol (ns.map .int))), some (.d (.int (0 + (k : Int)))), o2', o3'] M') := by
  obtain ⟨M1, h1, h2, h3⟩ := r_dice (ns := ns) (k := k) (M := M) hk hl
  have hcut : cutC M.length (some (.ok (.r M.length) M1)) = some (.ok (.r M.length) M1) := by
    obtain ⟨a, b, c, e1, _⟩ := h3
    rw [cutC_r (Nat.le_refl _) e1, cutC_new h2 e1]
  have e1 : (eCallC' (runB N__law_dice u__law_dice) (aCons (eVar 0) (aCons (eVar 1) aNil))) [some (.d (.rol (ns.map .int))), some (.d (.int (0 + (k : Int)))), o2, o3] M = some (.ok (.r M.length) M1) := by
    have hz : (0 + (k : Int)) = (k : Int) := Int.zero_add _
    rw [eCallC'_ap, aCons_ap, eVar_ap]
    simp only [List.getElem?_cons_zero, List.getElem?_cons_succ, varK_some, bnd_ok]
    rw [aCons_ap, eVar_ap]
    simp only [List.getElem?_cons_zero, List.getElem?_cons_succ, varK_some, bnd_ok]
    rw [aNil_ap, bnd_ok, bnd_ok, bnd_ok, hz, h1, hcut]
  obtain ⟨x, M2, g1, g2, g3, g4⟩ := r_one_of (xs := texts.map .str) h3 (by decide) (by decide) (by decide)
  obtain ⟨t, ht, rfl⟩ := List.mem_map.mp g2
  have e2 : (eCallF (runB N__law_one_of u__law_one_of) (aCons (eVar 2) (aCons (eLst (aCons (eC (.str "a match is expected")) (aCons (eC (.str "")) (aCons (eC (.str "x")) (aCons (eC (.str "two words")) aNil))))) aNil))) [some (.d (.rol (ns.map .int))), some (.d (.int (0 + (k : Int)))), some (.r M.length), o3] M1 = some (.ok (.d (.str t)) M2) := by
    have g1' : runB N__law_one_of u__law_one_of [.r M.length, .d (.lst [.str "a match is expected", .str "", .str "x", .str "two words"])] M1 = some (.ok (.d (.str t)) M2) := g1
    simp [g1', cutF_d g4.ln]
  obtain ⟨M3, k1⟩ := r_values g3 (by decide)
  refine ⟨some (.r M.length), some (.d (.str t)), M3.take M2.length, ?_⟩
  unfold w_cell
  rw [sSeq_ap, sSet_ap, e1, bndS_ok, seqK_nx]
  show sSeq _ _ [some (.d (.rol (ns.map .int))), some (.d (.int (0 + (k : Int)))), some (.r M.length), o3] M1 = _
  rw [sSeq_ap, sSet_ap, e2, bndS_ok, seqK_nx]
  show sIf _ _ _ [some (.d (.rol (ns.map .int))), some (.d (.int (0 + (k : Int)))), some (.r M.length), some (.d (.str t))] M2 = _
  simp [r_messages ht, k1, cutF_take]
theorem l_cells {ns : List Int} (hl : ns.length ≤ 1000) : ∀ (l : List Nat) (o1 o2 o3 : Option W) (M : Store), (∀ k ∈ l, k ≤ 1000) →
    ∃ (o1' o2' o3' : Option W) (M' : Store), forF (gNm 1) w_cell (l.map fun j : Nat => D.int (0 + (j : Int))) [some (.d (.rol (ns.map .int))), o1, o2, o3] M = some (.nx [some (.d (.rol (ns.map .int))), o1', o2', o3'] M')
  | [], o1, o2, o3, M, _ => ⟨o1, o2, o3, M, rfl⟩
  | k :: l, o1, o2, o3, M, h => by
    obtain ⟨p2, p3, M1, g1⟩ := l_cell (ns := ns) (k := k) (o2 := o2) (o3 := o3) (M := M) (h k List.mem_cons_self) hl
    obtain ⟨q1, q2, q3, M2, k1⟩ := l_cells hl l (some (.d (.int (0 + (k : Int))))) p2 p3 M1 (fun j hj => h j (List.mem_cons_of_mem _ hj))
    refine ⟨q1, q2, q3, M2, ?_⟩
    rw [List.map_cons, forF_cons (Γ1 := [some (.d (.rol (ns.map .int))), some (.d (.int (0 + (k : Int)))), o2, o3]) rfl, g1]
    exact k1
theorem main (ns : List Int) (hl : ns.length ≤ 63) : ∃ M', runB N_law u_law [.d (.rol (ns.map D.int))] [] = some (.ok (.d (.bl true)) M') := by
  rw [runB_ap]
  have hit : (iRange (aCons (eCall max2D (aCons (eC (.int 1)) (aCons (eCall min2D (aCons (eC (.int 6)) (aCons (eCall lenA (aCons (eVar 0) aNil)) aNil))) aNil))) aNil)) (startG N_law [.d (.rol (ns.map D.int))]) [] = some (.ok ((List.range (max 1 (min 6 ns.length))).map fun j : Nat => D.int (0 + (j : Int))) []) := by
    refine iRange_nat (n := max 1 (min 6 ns.length)) ?_ (by omega)
    have h1 : min2D [.int 6, .int (ns.length : Int)] = some (.int ((min 6 ns.length : Nat) : Int)) := by
      show some (D.int (if (ns.length : Int) < 6 then (ns.length : Int) else 6)) = _
      congr 2
      split <;> omega
    have h2 : max2D [.int 1, .int ((min 6 ns.length : Nat) : Int)] = some (.int ((max 1 (min 6 ns.length) : Nat) : Int)) := by
      show some (D.int (if ((min 6 ns.length : Nat) : Int) > 1 then ((min 6 ns.length : Nat) : Int) else 1)) = _
      congr 2
      split <;> omega
    have h0 : eCall lenA (aCons (eVar 0) aNil) (startG N_law [.d (.rol (ns.map D.int))]) [] = some (.ok (.d (.int (ns.length : Int))) []) := by simp [startG]
    rw [eCall_ap, aCons_ap, eC_ap, bnd_ok, aCons_ap, eCall_ap, aCons_ap, eC_ap, bnd_ok, aCons_ap, h0, bnd_ok, aNil_ap, bnd_ok, bnd_ok, bnd_ok, rds_d, rds_d, rds_nil, Option.map_some, Option.map_some, callK_some, h1, resK_some, bnd_ok, aNil_ap, bnd_ok, bnd_ok, bnd_ok, rds_d, rds_d, rds_nil, Option.map_some, Option.map_some, callK_some, h2, resK_some]
  obtain ⟨q1, q2, q3, M', k1⟩ := l_cells (ns := ns) (by omega) (List.range (max 1 (min 6 ns.length))) none none none [] (fun k hk => by have := List.mem_range.mp hk; omega)
  have k1' := k1
  unfold w_cell at k1'
  refine ⟨M', ?_⟩
  unfold u_law
  rw [sSeq_ap, sFor_rw hit]
  rw [show startG N_law [.d (.rol (ns.map D.int))] = [some (.d (.rol (ns.map .int))), none, none, none] from rfl, k1', seqK_nx, sRet_ap]
  rfl
end K00

set_option Elab.async false
set_option linter.all false
set_option maxRecDepth 100000
set_option autoImplicit false
set_option maxHeartbeats 4000000
namespace K00
open PySem PySem.Spec PyProof.Rows L2 DL
def top (i : Nat) : Stmt := PySem.Challenge.pw_mustlook_k00_errors.main.body.getD i (.Pass ⟨0, 0, 0, 0⟩)
abbrev FnP (K : PySem.W.Frag) (x : Str) (st : Stmt) (f : Addr) (fd : FuncData) : Prop := FunD K x x (defArgs st) (defBody st) (defScope st) [] [] f fd
structure Top [PWd] (K : PySem.W.Frag) (mg : Str → Option Value) where
  a__law_dice : Addr
  d__law_dice : FuncData
  f__law_dice : FnP K "_law_dice" (top 20) a__law_dice d__law_dice
  g__law_dice : mg "_law_dice" = some (.ref a__law_dice)
  a__law_roll : Addr
  d__law_roll : FuncData
  f__law_roll : FnP K "_law_roll" (top 21) a__law_roll d__law_roll
  g__law_roll : mg "_law_roll" = some (.ref a__law_roll)
  a__law_one_of : Addr
  d__law_one_of : FuncData
  f__law_one_of : FnP K "_law_one_of" (top 22) a__law_one_of d__law_one_of
  g__law_one_of : mg "_law_one_of" = some (.ref a__law_one_of)
  a__law_kinds : Addr
  d__law_kinds : FuncData
  f__law_kinds : FnP K "_law_kinds" (top 23) a__law_kinds d__law_kinds
  g__law_kinds : mg "_law_kinds" = some (.ref a__law_kinds)
  a__law_bases : Addr
  d__law_bases : FuncData
  f__law_bases : FnP K "_law_bases" (top 24) a__law_bases d__law_bases
  g__law_bases : mg "_law_bases" = some (.ref a__law_bases)
  a__law_others : Addr
  d__law_others : FuncData
  f__law_others : FnP K "_law_others" (top 25) a__law_others d__law_others
  g__law_others : mg "_law_others" = some (.ref a__law_others)
  a__law_messages_right : Addr
  d__law_messages_right : FuncData
  f__law_messages_right : FnP K "_law_messages_right" (top 26) a__law_messages_right d__law_messages_right
  g__law_messages_right : mg "_law_messages_right" = some (.ref a__law_messages_right)
  a__law_values_right : Addr
  d__law_values_right : FuncData
  f__law_values_right : FnP K "_law_values_right" (top 27) a__law_values_right d__law_values_right
  g__law_values_right : mg "_law_values_right" = some (.ref a__law_values_right)
  a_law : Addr
  d_law : FuncData
  f_law : FnP K "law" (top 28) a_law d_law
  g_law : mg "law" = some (.ref a_law)
  m_ArithmeticError : mg "ArithmeticError" = none
  m_IndexError : mg "IndexError" = none
  m_KeyError : mg "KeyError" = none
  m_LookupError : mg "LookupError" = none
  m_OverflowError : mg "OverflowError" = none
  m_RuntimeError : mg "RuntimeError" = none
  m_ValueError : mg "ValueError" = none
  m_abs : mg "abs" = none
  m_enumerate : mg "enumerate" = none
  m_int : mg "int" = none
  m_isinstance : mg "isinstance" = none
  m_len : mg "len" = none
  m_max : mg "max" = none
  m_min : mg "min" = none
  m_range : mg "range" = none
  m_repr : mg "repr" = none
  k_Apart : ∀ base : Heap, OwnF PWd.P PWd.w K mg base "Apart" "place"
  k_InvalidNumber : ∀ base : Heap, OwnF PWd.P PWd.w K mg base "InvalidNumber" "value"
  k_Knotted : ∀ base : Heap, OwnF PWd.P PWd.w K mg base "Knotted" "paper"
  k_NothingToUndo : ∀ base : Heap, OwnF PWd.P PWd.w K mg base "NothingToUndo" "many"
  k_TooMany : ∀ base : Heap, OwnF PWd.P PWd.w K mg base "TooMany" "limit"
  k_UnknownName : ∀ base : Heap, OwnF PWd.P PWd.w K mg base "UnknownName" "name"
  n_Apart : mg "Apart" = some (.ref (He.ga K "Apart"))
  n_InvalidCommand : mg "InvalidCommand" = some (.ref (He.ga K "InvalidCommand"))
  n_InvalidGraph : mg "InvalidGraph" = some (.ref (He.ga K "InvalidGraph"))
  n_InvalidHalf : mg "InvalidHalf" = some (.ref (He.ga K "InvalidHalf"))
  n_InvalidMatch : mg "InvalidMatch" = some (.ref (He.ga K "InvalidMatch"))
  n_InvalidNumber : mg "InvalidNumber" = some (.ref (He.ga K "InvalidNumber"))
  n_InvalidOperation : mg "InvalidOperation" = some (.ref (He.ga K "InvalidOperation"))
  n_InvalidPattern : mg "InvalidPattern" = some (.ref (He.ga K "InvalidPattern"))
  n_InvalidProgram : mg "InvalidProgram" = some (.ref (He.ga K "InvalidProgram"))
  n_InvalidTester : mg "InvalidTester" = some (.ref (He.ga K "InvalidTester"))
  n_InvalidTypes : mg "InvalidTypes" = some (.ref (He.ga K "InvalidTypes"))
  n_InvalidValue : mg "InvalidValue" = some (.ref (He.ga K "InvalidValue"))
  n_Knotted : mg "Knotted" = some (.ref (He.ga K "Knotted"))
  n_LookError : mg "LookError" = some (.ref (He.ga K "LookError"))
  n_NothingToUndo : mg "NothingToUndo" = some (.ref (He.ga K "NothingToUndo"))
  n_ParseError : mg "ParseError" = some (.ref (He.ga K "ParseError"))
  n_TooMany : mg "TooMany" = some (.ref (He.ga K "TooMany"))
  n_UnknownName : mg "UnknownName" = some (.ref (He.ga K "UnknownName"))
  isx : isxB XB_ XO_ XT_ K = true
  fx : fxB XF_ K = true
  sm : smK K = true
  x_InvalidCommand : OwnX K mg "InvalidCommand"
  x_InvalidGraph : OwnX K mg "InvalidGraph"
  x_InvalidHalf : OwnX K mg "InvalidHalf"
  x_InvalidMatch : OwnX K mg "InvalidMatch"
  x_InvalidOperation : OwnX K mg "InvalidOperation"
  x_InvalidPattern : OwnX K mg "InvalidPattern"
  x_InvalidProgram : OwnX K mg "InvalidProgram"
  x_InvalidTester : OwnX K mg "InvalidTester"
  x_InvalidTypes : OwnX K mg "InvalidTypes"
  x_InvalidValue : OwnX K mg "InvalidValue"
  x_LookError : OwnX K mg "LookError"
  x_ParseError : OwnX K mg "ParseError"
section
variable [PWd] {K : PySem.W.Frag} {mg : Str → Option Value} {base : Heap}
theorem sc__law_dice : FnScope N__law_dice ["_law_script", "_law_at"] (defScope (top 20)) := ⟨rfl, rfl, rfl, by decide +kernel, rfl, by decide +kernel, by decide +kernel⟩
theorem bd__law_dice (T : Top K mg) : Binds K T.d__law_dice ["_law_script", "_law_at"] [] := T.f__law_dice.bindsN fun _ _ _ _ _ _ us hl => match us, hl with | [_, _], _ => rfl
theorem ok__law_dice (T : Top K mg) : FnG PWd.P PWd.w K mg base (L2.CX PWd.P PWd.w) 1 T.a__law_dice T.d__law_dice ["_law_script", "_law_at"] (spF K 2 (runB N__law_dice u__law_dice)) := fnok rfl rfl T.f__law_dice sc__law_dice rfl fun X Wx Z C F px =>
    dss_cons (ds_set C F 2 (de_if (dt_lt (de_var C 1) (de_len C T.m_len (da_cons (de_var C 0) (da_nil)))) (de_sub C (de_var C 0) (de_var C 1)) (de_add (de_mul (de_int) (de_var C 1)) (de_int)))) (dss_cons (ds_set C F 3 (de_mod (de_toint C T.m_int (da_cons (de_abs C T.m_abs (da_cons (de_var C 2) (da_nil))) (da_nil))) (de_pow (de_pow (de_int) (de_int)) (de_int)))) (dss_cons (ds_set C F 4 (de_add (de_add (de_add (de_mul (de_int) (de_mod (de_toint C T.m_int (da_cons (de_var C 3) (da_nil))) (de_int))) (de_mul (de_int) (de_var C 1))) (de_toint C T.m_int (da_cons (de_lt (de_var C 2) (de_int)) (da_nil)))) (de_int))) (dss_one (ds_ret (de_lstC (da_cons (de_fdiv (de_var C 3) (de_pow (de_int) (de_int))) (da_cons (de_mod (de_toint C T.m_int (da_cons (de_pow (de_var C 4) (de_int)) (da_nil))) (de_int)) (da_cons (de_int) (da_nil)))))))))
theorem sc__law_roll : FnScope N__law_roll ["_law_dice_here", "_law_upto"] (defScope (top 21)) := ⟨rfl, rfl, rfl, by decide +kernel, rfl, by decide +kernel, by decide +kernel⟩
theorem bd__law_roll (T : Top K mg) : Binds K T.d__law_roll ["_law_dice_here", "_law_upto"] [] := T.f__law_roll.bindsN fun _ _ _ _ _ _ us hl => match us, hl with | [_, _], _ => rfl
theorem ok__law_roll (T : Top K mg) : FnG PWd.P PWd.w K mg base (L2.CX PWd.P PWd.w) 1 T.a__law_roll T.d__law_roll ["_law_dice_here", "_law_upto"] (spF K 2 (runB N__law_roll u__law_roll)) := fnok rfl rfl T.f__law_roll sc__law_roll rfl fun X Wx Z C F px =>
    dss_cons (ds_if (dt_gt (de_sub C (de_var C 0) (de_int)) (de_int)) (dss_cons (ds_set C F 4 (de_mod (de_toint C T.m_int (da_cons (de_sub C (de_var C 0) (de_int)) (da_nil))) (de_var C 1))) (dss_cons (ds_put C (de_fdiv (de_sub C (de_var C 0) (de_int)) (de_var C 1)) (de_var C 0) (de_int)) (dss_one (ds_ret (de_var C 4))))) (dss_nil)) (dss_cons (ds_put C (de_add (de_sub C (de_var C 0) (de_int)) (de_int)) (de_var C 0) (de_int)) (dss_cons (ds_set C F 2 (de_mod (de_toint C T.m_int (da_cons (de_add (de_sub C (de_var C 0) (de_int)) (de_mul (de_int) (de_sub C (de_var C 0) (de_int)))) (da_nil))) (de_int))) (dss_cons (ds_set C F 3 (de_add (de_mul (de_mod (de_toint C T.m_int (da_cons (de_mul (de_var C 2) (de_var C 2)) (da_nil))) (de_int)) (de_var C 2)) (de_mul (de_int) (de_sub C (de_var C 0) (de_int))))) (dss_one (ds_ret (de_mod (de_toint C T.m_int (da_cons (de_fdiv (de_mod (de_toint C T.m_int (da_cons (de_var C 3) (da_nil))) (de_int)) (de_int)) (da_nil))) (de_var C 1)))))))
theorem sc__law_one_of : FnScope N__law_one_of ["_law_dice_here", "_law_items"] (defScope (top 22)) := ⟨rfl, rfl, rfl, by decide +kernel, rfl, by decide +kernel, by decide +kernel⟩
theorem bd__law_one_of (T : Top K mg) : Binds K T.d__law_one_of ["_law_dice_here", "_law_items"] [] := T.f__law_one_of.bindsN fun _ _ _ _ _ _ us hl => match us, hl with | [_, _], _ => rfl
theorem ok__law_one_of (T : Top K mg) : FnG PWd.P PWd.w K mg base (L2.CX PWd.P PWd.w) 2 T.a__law_one_of T.d__law_one_of ["_law_dice_here", "_law_items"] (spF K 2 (runB N__law_one_of u__law_one_of)) := fnok rfl rfl T.f__law_one_of sc__law_one_of rfl fun X Wx Z C F px =>
    dss_one (ds_ret (de_sub C (de_var C 1) (de_callF C (ok__law_roll T) (by decide) T.g__law_roll T.f__law_roll.kp (bd__law_roll T) (da_cons (de_var C 0) (da_cons (de_len C T.m_len (da_cons (de_var C 1) (da_nil))) (da_nil))))))
theorem sc__law_kinds : FnScope N__law_kinds ["_law_error"] (defScope (top 23)) := ⟨rfl, rfl, rfl, by decide +kernel, rfl, by decide +kernel, by decide +kernel⟩
theorem bd__law_kinds (T : Top K mg) : Binds K T.d__law_kinds ["_law_error"] [] := T.f__law_kinds.bindsN fun _ _ _ _ _ _ us hl => match us, hl with | [_], _ => rfl
theorem ok__law_kinds (T : Top K mg) : FnG PWd.P PWd.w K mg base (L2.CX PWd.P PWd.w) 1 T.a__law_kinds T.d__law_kinds ["_law_error"] (spF K 1 (runB N__law_kinds u__law_kinds)) := fnok rfl rfl T.f__law_kinds sc__law_kinds rfl fun X Wx Z C F px =>
    dss_cons (ds_set C F 1 (de_lst (da_cons (de_isX C T.isx T.m_isinstance (da_cons (de_var C 0) (da_cons (de_cls C T.n_InvalidTypes) (da_nil)))) (da_cons (de_isX C T.isx T.m_isinstance (da_cons (de_var C 0) (da_cons (de_cls C T.n_InvalidValue) (da_nil)))) (da_cons (de_isX C T.isx T.m_isinstance (da_cons (de_var C 0) (da_cons (de_cls C T.n_InvalidPattern) (da_nil)))) (da_nil)))))) (dss_cons (ds_set C F 1 (de_add (de_var C 1) (de_lst (da_cons (de_isX C T.isx T.m_isinstance (da_cons (de_var C 0) (da_cons (de_cls C T.n_InvalidMatch) (da_nil)))) (da_cons (de_isX C T.isx T.m_isinstance (da_cons (de_var C 0) (da_cons (de_cls C T.n_InvalidHalf) (da_nil)))) (da_cons (de_isX C T.isx T.m_isinstance (da_cons (de_var C 0) (da_cons (de_cls C T.n_InvalidTester) (da_nil)))) (da_nil))))))) (dss_cons (ds_set C F 1 (de_add (de_var C 1) (de_lst (da_cons (de_isX C T.isx T.m_isinstance (da_cons (de_var C 0) (da_cons (de_cls C T.n_InvalidProgram) (da_nil)))) (da_cons (de_isX C T.isx T.m_isinstance (da_cons (de_var C 0) (da_cons (de_cls C T.n_InvalidGraph) (da_nil)))) (da_nil)))))) (dss_cons (ds_set C F 1 (de_add (de_var C 1) (de_lst (da_cons (de_isX C T.isx T.m_isinstance (da_cons (de_var C 0) (da_cons (de_cls C T.n_InvalidOperation) (da_nil)))) (da_cons (de_isX C T.isx T.m_isinstance (da_cons (de_var C 0) (da_cons (de_cls C T.n_ParseError) (da_nil)))) (da_nil)))))) (dss_one (ds_ret (de_add (de_var C 1) (de_lst (da_cons (de_isX C T.isx T.m_isinstance (da_cons (de_var C 0) (da_cons (de_cls C T.n_InvalidCommand) (da_nil)))) (da_nil)))))))))
theorem sc__law_bases : FnScope N__law_bases ["_law_error"] (defScope (top 24)) := ⟨rfl, rfl, rfl, by decide +kernel, rfl, by decide +kernel, by decide +kernel⟩
theorem bd__law_bases (T : Top K mg) : Binds K T.d__law_bases ["_law_error"] [] := T.f__law_bases.bindsN fun _ _ _ _ _ _ us hl => match us, hl with | [_], _ => rfl
theorem ok__law_bases (T : Top K mg) : FnG PWd.P PWd.w K mg base (L2.CX PWd.P PWd.w) 1 T.a__law_bases T.d__law_bases ["_law_error"] (spF K 1 (runB N__law_bases u__law_bases)) := fnok rfl rfl T.f__law_bases sc__law_bases rfl fun X Wx Z C F px =>
    dss_cons (ds_set C F 1 (de_lst (da_cons (de_isX C T.isx T.m_isinstance (da_cons (de_var C 0) (da_cons (de_ty C T.m_ValueError rfl) (da_nil)))) (da_cons (de_isX C T.isx T.m_isinstance (da_cons (de_var C 0) (da_cons (de_ty C T.m_KeyError rfl) (da_nil)))) (da_cons (de_isX C T.isx T.m_isinstance (da_cons (de_var C 0) (da_cons (de_ty C T.m_IndexError rfl) (da_nil)))) (da_nil)))))) (dss_cons (ds_set C F 1 (de_add (de_var C 1) (de_lst (da_cons (de_isX C T.isx T.m_isinstance (da_cons (de_var C 0) (da_cons (de_ty C T.m_LookupError rfl) (da_nil)))) (da_cons (de_isX C T.isx T.m_isinstance (da_cons (de_var C 0) (da_cons (de_ty C T.m_OverflowError rfl) (da_nil)))) (da_nil)))))) (dss_one (ds_ret (de_add (de_var C 1) (de_lst (da_cons (de_isX C T.isx T.m_isinstance (da_cons (de_var C 0) (da_cons (de_ty C T.m_RuntimeError rfl) (da_nil)))) (da_cons (de_isX C T.isx T.m_isinstance (da_cons (de_var C 0) (da_cons (de_ty C T.m_ArithmeticError rfl) (da_nil)))) (da_nil))))))))
theorem sc__law_others : FnScope N__law_others ["_law_error"] (defScope (top 25)) := ⟨rfl, rfl, rfl, by decide +kernel, rfl, by decide +kernel, by decide +kernel⟩
theorem bd__law_others (T : Top K mg) : Binds K T.d__law_others ["_law_error"] [] := T.f__law_others.bindsN fun _ _ _ _ _ _ us hl => match us, hl with | [_], _ => rfl
theorem ok__law_others (T : Top K mg) : FnG PWd.P PWd.w K mg base (L2.CX PWd.P PWd.w) 1 T.a__law_others T.d__law_others ["_law_error"] (spF K 1 (runB N__law_others u__law_others)) := fnok rfl rfl T.f__law_others sc__law_others rfl fun X Wx Z C F px =>
    dss_cons (ds_set C F 1 (de_lst (da_cons (de_isX C T.isx T.m_isinstance (da_cons (de_var C 0) (da_cons (de_cls C T.n_UnknownName) (da_nil)))) (da_cons (de_isX C T.isx T.m_isinstance (da_cons (de_var C 0) (da_cons (de_cls C T.n_InvalidNumber) (da_nil)))) (da_cons (de_isX C T.isx T.m_isinstance (da_cons (de_var C 0) (da_cons (de_cls C T.n_TooMany) (da_nil)))) (da_nil)))))) (dss_cons (ds_set C F 1 (de_add (de_var C 1) (de_lst (da_cons (de_isX C T.isx T.m_isinstance (da_cons (de_var C 0) (da_cons (de_cls C T.n_Knotted) (da_nil)))) (da_cons (de_isX C T.isx T.m_isinstance (da_cons (de_var C 0) (da_cons (de_cls C T.n_Apart) (da_nil)))) (da_nil)))))) (dss_one (ds_ret (de_add (de_var C 1) (de_lst (da_cons (de_isX C T.isx T.m_isinstance (da_cons (de_var C 0) (da_cons (de_cls C T.n_NothingToUndo) (da_nil)))) (da_nil)))))))
theorem sc__law_messages_right : FnScope N__law_messages_right ["_law_text"] (defScope (top 26)) := ⟨rfl, rfl, rfl, by decide +kernel, rfl, by decide +kernel, by decide +kernel⟩
theorem bd__law_messages_right (T : Top K mg) : Binds K T.d__law_messages_right ["_law_text"] [] := T.f__law_messages_right.bindsN fun _ _ _ _ _ _ us hl => match us, hl with | [_], _ => rfl
theorem ok__law_messages_right (T : Top K mg) : FnG PWd.P PWd.w K mg base (L2.CX PWd.P PWd.w) 2 T.a__law_messages_right T.d__law_messages_right ["_law_text"] (spF K 1 (runB N__law_messages_right u__law_messages_right)) := fnok rfl rfl T.f__law_messages_right sc__law_messages_right rfl fun X Wx Z C F px =>
    dss_cons (ds_set C F 1 (de_lst (da_cons (de_mkX C T.x_InvalidTypes (de_var C 0)) (da_cons (de_mkX C T.x_InvalidValue (de_var C 0)) (da_cons (de_mkX C T.x_InvalidPattern (de_var C 0)) (da_cons (de_mkX C T.x_InvalidMatch (de_var C 0)) (da_cons (de_mkX C T.x_InvalidHalf (de_var C 0)) (da_nil)))))))) (dss_cons (ds_set C F 1 (de_add (de_var C 1) (de_lst (da_cons (de_mkX C T.x_InvalidTester (de_var C 0)) (da_cons (de_mkX C T.x_InvalidProgram (de_var C 0)) (da_cons (de_mkX C T.x_InvalidGraph (de_var C 0)) (da_cons (de_mkX C T.x_InvalidOperation (de_var C 0)) (da_nil)))))))) (dss_cons (ds_set C F 1 (de_add (de_var C 1) (de_lst (da_cons (de_mkX C T.x_ParseError (de_var C 0)) (da_cons (de_mkX C T.x_InvalidCommand (de_var C 0)) (da_nil)))))) (dss_cons (ds_for C px (di_enum C T.m_enumerate (da_cons (de_var C 1) (da_nil))) (dg_tup C (dgs_cons (dg_name C F 2) (dgs_cons (dg_name C F 3) (dgs_nil)))) (dss_cons (ds_if (DW.dt (dw_or (dt_ne C (de_callP C (ok__law_kinds T) (by decide) T.g__law_kinds T.f__law_kinds.kp (bd__law_kinds T) (da_cons (de_var C 3) (da_nil))) (de_lcL C [("_law_other", 5)] (di_range1 C T.m_range (da_cons (de_int) (da_nil))) (fun _ _ C F => dg_name C F 5) (fun _ _ C F => dts_nil) (rc_list (fun _ _ C F => de_eq C (de_var C 5) (de_var C 2))))) (dw_or1 (dt_not (dt_tru (de_isX C T.isx T.m_isinstance (da_cons (de_var C 3) (da_cons (de_cls C T.n_LookError) (da_nil))))))))) (dss_one (ds_ret (de_bl))) (dss_nil)) (dss_one (ds_if (DW.dt (dw_or (dt_ne C (de_callP C (ok__law_bases T) (by decide) T.g__law_bases T.f__law_bases.kp (bd__law_bases T) (da_cons (de_var C 3) (da_nil))) (de_add (de_lst (da_cons (de_bl) (da_nil))) (de_mul (de_lst (da_cons (de_bl) (da_nil))) (de_int)))) (dw_or1 (dt_in C (de_bl) (de_callP C (ok__law_others T) (by decide) T.g__law_others T.f__law_others.kp (bd__law_others T) (da_cons (de_var C 3) (da_nil))))))) (dss_one (ds_ret (de_bl))) (dss_nil))))) (dss_cons (ds_set C F 4 (de_mkX C T.x_LookError (de_var C 0))) (dss_cons (ds_if (DW.dt (dw_or (dt_ne C (de_callP C (ok__law_kinds T) (by decide) T.g__law_kinds T.f__law_kinds.kp (bd__law_kinds T) (da_cons (de_var C 4) (da_nil))) (de_mul (de_lst (da_cons (de_bl) (da_nil))) (de_int))) (dw_or1 (dt_in C (de_bl) (de_callP C (ok__law_others T) (by decide) T.g__law_others T.f__law_others.kp (bd__law_others T) (da_cons (de_var C 4) (da_nil))))))) (dss_one (ds_ret (de_bl))) (dss_nil)) (dss_one (ds_ret (de_eq C (de_callP C (ok__law_bases T) (by decide) T.g__law_bases T.f__law_bases.kp (bd__law_bases T) (da_cons (de_var C 4) (da_nil))) (de_add (de_lst (da_cons (de_bl) (da_nil))) (de_mul (de_lst (da_cons (de_bl) (da_nil))) (de_int)))))))))))
theorem sc__law_values_right : FnScope N__law_values_right ["_law_dice_here"] (defScope (top 27)) := ⟨rfl, rfl, rfl, by decide +kernel, rfl, by decide +kernel, by decide +kernel⟩
theorem bd__law_values_right (T : Top K mg) : Binds K T.d__law_values_right ["_law_dice_here"] [] := T.f__law_values_right.bindsN fun _ _ _ _ _ _ us hl => match us, hl with | [_], _ => rfl
theorem ok__law_values_right (T : Top K mg) : FnG PWd.P PWd.w K mg base (L2.CX PWd.P PWd.w) 3 T.a__law_values_right T.d__law_values_right ["_law_dice_here"] (spF K 1 (runB N__law_values_right u__law_values_right)) := fnok rfl rfl T.f__law_values_right sc__law_values_right rfl fun X Wx Z C F px =>
    dss_cons (ds_set C F 1 (de_lst (da_cons (de_non) (da_cons (de_int) (da_cons (de_neg (de_int)) (da_cons (de_str) (da_cons (de_tup (da_nil)) (da_cons (de_tup (da_cons (de_str) (da_cons (de_int) (da_nil)))) (da_cons (de_lst (da_cons (de_int) (da_nil))) (da_cons (de_fz (de_dict0)) (da_cons (de_pow (de_int) (de_int)) (da_cons (de_bl) (da_nil))))))))))))) (dss_cons (ds_set C F 2 (de_lst (da_cons (de_callF C (ok__law_one_of T) (by decide) T.g__law_one_of T.f__law_one_of.kp (bd__law_one_of T) (da_cons (de_var C 0) (da_cons (de_var C 1) (da_nil)))) (da_cons (de_callF C (ok__law_one_of T) (by decide) T.g__law_one_of T.f__law_one_of.kp (bd__law_one_of T) (da_cons (de_var C 0) (da_cons (de_var C 1) (da_nil)))) (da_cons (de_callF C (ok__law_one_of T) (by decide) T.g__law_one_of T.f__law_one_of.kp (bd__law_one_of T) (da_cons (de_var C 0) (da_cons (de_lst (da_cons (de_int) (da_cons (de_int) (da_cons (de_int) (da_cons (de_int) (da_nil)))))) (da_nil)))) (da_nil)))))) (dss_cons (ds_set C F 2 (de_add (de_var C 2) (de_lst (da_cons (de_callF C (ok__law_one_of T) (by decide) T.g__law_one_of T.f__law_one_of.kp (bd__law_one_of T) (da_cons (de_var C 0) (da_cons (de_lst (da_cons (de_tup (da_cons (de_str) (da_cons (de_tup (da_nil)) (da_cons (de_tup (da_nil)) (da_nil))))) (da_cons (de_tup (da_cons (de_str) (da_cons (de_tup (da_cons (de_int) (da_nil))) (da_cons (de_tup (da_cons (de_tup (da_cons (de_int) (da_nil))) (da_nil))) (da_nil))))) (da_nil)))) (da_nil)))) (da_nil))))) (dss_cons (ds_set C F 2 (de_add (de_var C 2) (de_lst (da_cons (de_callF C (ok__law_one_of T) (by decide) T.g__law_one_of T.f__law_one_of.kp (bd__law_one_of T) (da_cons (de_var C 0) (da_cons (de_lst (da_cons (de_tup (da_cons (de_int) (da_nil))) (da_cons (de_tup (da_cons (de_int) (da_cons (de_int) (da_nil)))) (da_cons (de_tup (da_cons (de_int) (da_cons (de_int) (da_cons (de_int) (da_nil))))) (da_nil))))) (da_nil)))) (da_cons (de_callF C (ok__law_one_of T) (by decide) T.g__law_one_of T.f__law_one_of.kp (bd__law_one_of T) (da_cons (de_var C 0) (da_cons (de_lst (da_cons (de_int) (da_cons (de_int) (da_cons (de_pow (de_int) (de_int)) (da_nil))))) (da_nil)))) (da_nil)))))) (dss_cons (ds_set C F 1 (de_lst (da_cons (de_mkF C (T.k_UnknownName _) (by first | decide | omega) (da_cons (de_sub C (de_var C 2) (de_int)) (da_nil))) (da_cons (de_mkF C (T.k_InvalidNumber _) (by first | decide | omega) (da_cons (de_sub C (de_var C 2) (de_int)) (da_nil))) (da_cons (de_mkF C (T.k_TooMany _) (by first | decide | omega) (da_cons (de_sub C (de_var C 2) (de_int)) (da_nil))) (da_cons (de_mkF C (T.k_Knotted _) (by first | decide | omega) (da_cons (de_sub C (de_var C 2) (de_int)) (da_nil))) (da_cons (de_mkF C (T.k_Apart _) (by first | decide | omega) (da_cons (de_sub C (de_var C 2) (de_int)) (da_nil))) (da_nil)))))))) (dss_cons (ds_set C F 1 (de_add (de_var C 1) (de_lst (da_cons (de_mkF C (T.k_NothingToUndo _) (by first | decide | omega) (da_cons (de_sub C (de_var C 2) (de_int)) (da_nil))) (da_nil))))) (dss_cons (ds_set C F 3 (de_lst (da_cons (de_fx C T.fx (de_sub C (de_var C 1) (de_int))) (da_cons (de_fx C T.fx (de_sub C (de_var C 1) (de_int))) (da_cons (de_fx C T.fx (de_sub C (de_var C 1) (de_int))) (da_cons (de_fx C T.fx (de_sub C (de_var C 1) (de_int))) (da_cons (de_fx C T.fx (de_sub C (de_var C 1) (de_int))) (da_cons (de_fx C T.fx (de_sub C (de_var C 1) (de_int))) (da_nil))))))))) (dss_cons (ds_if (dt_ne C (de_repr C T.sm T.m_repr (da_cons (de_var C 3) (da_nil))) (de_repr C T.sm T.m_repr (da_cons (de_var C 2) (da_nil)))) (dss_one (ds_ret (de_bl))) (dss_nil)) (dss_cons (ds_set C F 4 (de_lst (da_cons (de_lst (da_cons (de_int) (da_cons (de_int) (da_nil)))) (da_cons (de_lst (da_cons (de_int) (da_cons (de_int) (da_nil)))) (da_cons (de_lst (da_cons (de_int) (da_cons (de_int) (da_nil)))) (da_cons (de_lst (da_cons (de_int) (da_nil))) (da_cons (de_lst (da_cons (de_int) (da_nil))) (da_cons (de_lst (da_cons (de_int) (da_nil))) (da_nil))))))))) (dss_cons (ds_for C px (di_enum C T.m_enumerate (da_cons (de_var C 1) (da_nil))) (dg_tup C (dgs_cons (dg_name C F 5) (dgs_cons (dg_name C F 6) (dgs_nil)))) (dss_cons (ds_if (DW.dt (dw_or (dt_ne C (de_callP C (ok__law_others T) (by decide) T.g__law_others T.f__law_others.kp (bd__law_others T) (da_cons (de_var C 6) (da_nil))) (de_lcL C [("_law_other", 7)] (di_range1 C T.m_range (da_cons (de_int) (da_nil))) (fun _ _ C F => dg_name C F 7) (fun _ _ C F => dts_nil) (rc_list (fun _ _ C F => de_eq C (de_var C 7) (de_var C 5))))) (dw_or1 (dt_in C (de_bl) (de_callP C (ok__law_kinds T) (by decide) T.g__law_kinds T.f__law_kinds.kp (bd__law_kinds T) (da_cons (de_var C 6) (da_nil))))))) (dss_one (ds_ret (de_bl))) (dss_nil)) (dss_one (ds_if (DW.dt (dw_or (dt_tru (de_isX C T.isx T.m_isinstance (da_cons (de_var C 6) (da_cons (de_cls C T.n_LookError) (da_nil))))) (dw_or1 (dt_ne C (de_callP C (ok__law_bases T) (by decide) T.g__law_bases T.f__law_bases.kp (bd__law_bases T) (da_cons (de_var C 6) (da_nil))) (de_lcL C [("_law_other", 7)] (di_range1 C T.m_range (da_cons (de_int) (da_nil))) (fun _ _ C F => dg_name C F 7) (fun _ _ C F => dts_nil) (rc_list (fun _ _ C F => de_in C (de_var C 7) (de_sub C (de_var C 4) (de_var C 5))))))))) (dss_one (ds_ret (de_bl))) (dss_nil))))) (dss_one (ds_ret (de_bl))))))))))))
theorem sc_law : FnScope N_law ["_law_script"] (defScope (top 28)) := ⟨rfl, rfl, rfl, by decide +kernel, rfl, by decide +kernel, by decide +kernel⟩
theorem bd_law (T : Top K mg) : Binds K T.d_law ["_law_script"] [] := T.f_law.bindsN fun _ _ _ _ _ _ us hl => match us, hl with | [_], _ => rfl
theorem ok_law (T : Top K mg) : FnG PWd.P PWd.w K mg base (L2.CX PWd.P PWd.w) 4 T.a_law T.d_law ["_law_script"] (spF K 1 (runB N_law u_law)) := fnok rfl rfl T.f_law sc_law rfl fun X Wx Z C F px =>
    dss_cons (ds_for C px (di_range1 C T.m_range (da_cons (de_max2 C T.m_max (da_cons (de_int) (da_cons (de_min2 C T.m_min (da_cons (de_int) (da_cons (de_len C T.m_len (da_cons (de_var C 0) (da_nil))) (da_nil)))) (da_nil)))) (da_nil))) (dg_name C F 1) (dss_cons (ds_set C F 2 (de_callC C (ok__law_dice T) (by decide) T.g__law_dice T.f__law_dice.kp (bd__law_dice T) (da_cons (de_var C 0) (da_cons (de_var C 1) (da_nil))))) (dss_cons (ds_set C F 3 (de_callF C (ok__law_one_of T) (by decide) T.g__law_one_of T.f__law_one_of.kp (bd__law_one_of T) (da_cons (de_var C 2) (da_cons (de_lst (da_cons (de_str) (da_cons (de_str) (da_cons (de_str) (da_cons (de_str) (da_nil)))))) (da_nil))))) (dss_one (ds_if (DW.dt (dw_or (dt_not (dt_tru (de_callP C (ok__law_messages_right T) (by decide) T.g__law_messages_right T.f__law_messages_right.kp (bd__law_messages_right T) (da_cons (de_var C 3) (da_nil))))) (dw_or1 (dt_not (dt_tru (de_callF C (ok__law_values_right T) (by decide) T.g__law_values_right T.f__law_values_right.kp (bd__law_values_right T) (da_cons (de_var C 2) (da_nil)))))))) (dss_one (ds_ret (de_bl))) (dss_nil)))))) (dss_one (ds_ret (de_bl)))
end
end K00

set_option Elab.async false
set_option linter.all false
set_option maxRecDepth 100000
set_option autoImplicit false
set_option maxHeartbeats 0
namespace K00
open PySem PySem.Spec PyProof.Rows L2 DL PySem.DLX
def mkd (x : Str) (i : Nat) : He.DefD := ⟨(x, none), x, x, defArgs (top i), defBody (top i), defScope (top i), [], []⟩
def mki (x : Str) (i : Nat) : He.DefD := ⟨(x, some "__init__"), "__init__", x ++ ".__init__", defArgs (clsDef (top i)), defBody (clsDef (top i)), defScope (clsDef (top i)), [], []⟩
def fn : List He.DefD := [mkd "_law_dice" 20, mkd "_law_roll" 21, mkd "_law_one_of" 22, mkd "_law_kinds" 23, mkd "_law_bases" 24, mkd "_law_others" 25, mkd "_law_messages_right" 26, mkd "_law_values_right" 27, mkd "law" 28, mki "Apart" 17, mki "InvalidNumber" 14, mki "Knotted" 16, mki "NothingToUndo" 18, mki "TooMany" 15, mki "UnknownName" 13]
def fa : List FaQ := [qf (.glo "_law_dice"), qf (.glo "_law_roll"), qf (.glo "_law_one_of"), qf (.glo "_law_kinds"), qf (.glo "_law_bases"), qf (.glo "_law_others"), qf (.glo "_law_messages_right"), qf (.glo "_law_values_right"), qf (.glo "law"), qf (.free "ArithmeticError"), qf (.free "IndexError"), qf (.free "KeyError"), qf (.free "LookupError"), qf (.free "OverflowError"), qf (.free "RuntimeError"), qf (.free "ValueError"), qf (.free "abs"), qf (.free "enumerate"), qf (.free "int"), qf (.free "isinstance"), qf (.free "len"), qf (.free "max"), qf (.free "min"), qf (.free "range"), qf (.free "repr"), qf (.glo "InvalidCommand"), qf (.exc "InvalidCommand"), qf (.glo "InvalidGraph"), qf (.exc "InvalidGraph"), qf (.glo "InvalidHalf"), qf (.exc "InvalidHalf"), qf (.glo "InvalidMatch"), qf (.exc "InvalidMatch"), qf (.glo "InvalidOperation"), qf (.exc "InvalidOperation"), qf (.glo "InvalidPattern"), qf (.exc "InvalidPattern"), qf (.glo "InvalidProgram"), qf (.exc "InvalidProgram"), qf (.glo "InvalidTester"), qf (.exc "InvalidTester"), qf (.glo "InvalidTypes"), qf (.exc "InvalidTypes"), qf (.glo "InvalidValue"), qf (.exc "InvalidValue"), qf (.glo "LookError"), qf (.exc "LookError"), qf (.glo "ParseError"), qf (.exc "ParseError"), qf (.glo "Apart"), qf (.glo "InvalidNumber"), qf (.glo "Knotted"), qf (.glo "NothingToUndo"), qf (.glo "TooMany"), qf (.glo "UnknownName"), isxB XB_ XO_ XT_, fxB XF_, smK, oexB "Apart" "place" [.type "RuntimeError", .type "Exception", .type "BaseException", .type "object"] "RuntimeError.__new__", oexB "InvalidNumber" "value" [.type "IndexError", .type "LookupError", .type "Exception", .type "BaseException", .type "object"] "IndexError.__new__", oexB "Knotted" "paper" [.type "ArithmeticError", .type "Exception", .type "BaseException", .type "object"] "ArithmeticError.__new__", oexB "NothingToUndo" "many" [.type "LookupError", .type "Exception", .type "BaseException", .type "object"] "LookupError.__new__", oexB "TooMany" "limit" [.type "OverflowError", .type "ArithmeticError", .type "Exception", .type "BaseException", .type "object"] "OverflowError.__new__", oexB "UnknownName" "name" [.type "KeyError", .type "LookupError", .type "Exception", .type "BaseException", .type "object"] "LookupError.__new__"]
abbrev R : PySem.W.OpenRow := PySem.W.OpenLaw.row PySem.Challenge.rw_mustlook_k00_errors
abbrev hk : PySem.W.Hook := hookQ 5 fa fn
def ob (s : PySem.W.SharedT) : He.AlD := obsQG 5 fa fn (HandSHeadRun.getT s)
theorem ob_eq (s : PySem.W.SharedT) : ob s = hk.obs s.abs := obsQG_eq (HandSHeadRun.getT_eq s)
def loose : List Str := (["LookError", "InvalidTypes", "InvalidValue", "InvalidPattern", "InvalidMatch", "InvalidHalf", "InvalidTester", "InvalidProgram", "InvalidGraph", "InvalidOperation", "ParseError", "InvalidCommand", "UnknownName", "InvalidNumber", "TooMany", "Knotted", "Apart", "NothingToUndo", "_law_dice", "_law_roll", "_law_one_of", "_law_kinds", "_law_bases", "_law_others", "_law_messages_right", "_law_values_right"] : List Str)
theorem run (w : World) : HandSHeadRun.RunEq R (PySem.W.view R.prog [28]) hk ob 12000 loose w := by
  intro os
  kernel_rfl
section
variable [PWd]
theorem top_of {K : PySem.W.Frag} {h : Heap} {mg : Str → Option Value} (X : K.In h) (G : h.Ns mainGlobals mg) (c : SaysQ fa fn K) : Nonempty (Top K mg) := by
  obtain ⟨d0, F0⟩ := c.def_ 0 (d := mkd "_law_dice" 20) rfl
  obtain ⟨d1, F1⟩ := c.def_ 1 (d := mkd "_law_roll" 21) rfl
  obtain ⟨d2, F2⟩ := c.def_ 2 (d := mkd "_law_one_of" 22) rfl
  obtain ⟨d3, F3⟩ := c.def_ 3 (d := mkd "_law_kinds" 23) rfl
  obtain ⟨d4, F4⟩ := c.def_ 4 (d := mkd "_law_bases" 24) rfl
  obtain ⟨d5, F5⟩ := c.def_ 5 (d := mkd "_law_others" 25) rfl
  obtain ⟨d6, F6⟩ := c.def_ 6 (d := mkd "_law_messages_right" 26) rfl
  obtain ⟨d7, F7⟩ := c.def_ 7 (d := mkd "_law_values_right" 27) rfl
  obtain ⟨d8, F8⟩ := c.def_ 8 (d := mkd "law" 28) rfl
  obtain ⟨e0, E0⟩ := c.def_ 9 (d := mki "Apart" 17) rfl
  have k_Apart : ∀ base : Heap, OwnF PWd.P PWd.w K mg base "Apart" "place" := fun base => ownF_of (arg := "place") (c.fact 58 (f := oexB "Apart" "place" [.type "RuntimeError", .type "Exception", .type "BaseException", .type "object"] "RuntimeError.__new__") rfl) mk_RuntimeError tl_RuntimeError E0 ⟨rfl, rfl, rfl, by decide +kernel, rfl, by decide +kernel, by decide +kernel⟩ (by first | exact .inl rfl | exact .inr (.inl rfl) | exact .inr (.inr rfl)) (by first | exact .inl rfl | exact .inr (.inl rfl) | exact .inr (.inr rfl)) (by decide) (by decide) (fun _ => rfl) (E0.bindsN fun _ _ _ _ _ _ us hl => match us, hl with | [_, _], _ => rfl) (He.glo_ok X G (c.fact 49 (f := qf (.glo "Apart")) rfl))
  obtain ⟨e1, E1⟩ := c.def_ 10 (d := mki "InvalidNumber" 14) rfl
  have k_InvalidNumber : ∀ base : Heap, OwnF PWd.P PWd.w K mg base "InvalidNumber" "value" := fun base => ownF_of (arg := "value") (c.fact 59 (f := oexB "InvalidNumber" "value" [.type "IndexError", .type "LookupError", .type "Exception", .type "BaseException", .type "object"] "IndexError.__new__") rfl) mk_IndexError tl_IndexError E1 ⟨rfl, rfl, rfl, by decide +kernel, rfl, by decide +kernel, by decide +kernel⟩ (by first | exact .inl rfl | exact .inr (.inl rfl) | exact .inr (.inr rfl)) (by first | exact .inl rfl | exact .inr (.inl rfl) | exact .inr (.inr rfl)) (by decide) (by decide) (fun _ => rfl) (E1.bindsN fun _ _ _ _ _ _ us hl => match us, hl with | [_, _], _ => rfl) (He.glo_ok X G (c.fact 50 (f := qf (.glo "InvalidNumber")) rfl))
  obtain ⟨e2, E2⟩ := c.def_ 11 (d := mki "Knotted" 16) rfl
  have k_Knotted : ∀ base : Heap, OwnF PWd.P PWd.w K mg base "Knotted" "paper" := fun base => ownF_of (arg := "paper") (c.fact 60 (f := oexB "Knotted" "paper" [.type "ArithmeticError", .type "Exception", .type "BaseException", .type "object"] "ArithmeticError.__new__") rfl) mk_ArithmeticError tl_ArithmeticError E2 ⟨rfl, rfl, rfl, by decide +kernel, rfl, by decide +kernel, by decide +kernel⟩ (by first | exact .inl rfl | exact .inr (.inl rfl) | exact .inr (.inr rfl)) (by first | exact .inl rfl | exact .inr (.inl rfl) | exact .inr (.inr rfl)) (by decide) (by decide) (fun _ => rfl) (E2.bindsN fun _ _ _ _ _ _ us hl => match us, hl with | [_, _], _ => rfl) (He.glo_ok X G (c.fact 51 (f := qf (.glo "Knotted")) rfl))
  obtain ⟨e3, E3⟩ := c.def_ 12 (d := mki "NothingToUndo" 18) rfl
  have k_NothingToUndo : ∀ base : Heap, OwnF PWd.P PWd.w K mg base "NothingToUndo" "many" := fun base => ownF_of (arg := "many") (c.fact 61 (f := oexB "NothingToUndo" "many" [.type "LookupError", .type "Exception", .type "BaseException", .type "object"] "LookupError.__new__") rfl) mk_LookupError tl_LookupError E3 ⟨rfl, rfl, rfl, by decide +kernel, rfl, by decide +kernel, by decide +kernel⟩ (by first | exact .inl rfl | exact .inr (.inl rfl) | exact .inr (.inr rfl)) (by first | exact .inl rfl | exact .inr (.inl rfl) | exact .inr (.inr rfl)) (by decide) (by decide) (fun _ => rfl) (E3.bindsN fun _ _ _ _ _ _ us hl => match us, hl with | [_, _], _ => rfl) (He.glo_ok X G (c.fact 52 (f := qf (.glo "NothingToUndo")) rfl))
  obtain ⟨e4, E4⟩ := c.def_ 13 (d := mki "TooMany" 15) rfl
  have k_TooMany : ∀ base : Heap, OwnF PWd.P PWd.w K mg base "TooMany" "limit" := fun base => ownF_of (arg := "limit") (c.fact 62 (f := oexB "TooMany" "limit" [.type "OverflowError", .type "ArithmeticError", .type "Exception", .type "BaseException", .type "object"] "OverflowError.__new__") rfl) mk_OverflowError tl_OverflowError E4 ⟨rfl, rfl, rfl, by decide +kernel, rfl, by decide +kernel, by decide +kernel⟩ (by first | exact .inl rfl | exact .inr (.inl rfl) | exact .inr (.inr rfl)) (by first | exact .inl rfl | exact .inr (.inl rfl) | exact .inr (.inr rfl)) (by decide) (by decide) (fun _ => rfl) (E4.bindsN fun _ _ _ _ _ _ us hl => match us, hl with | [_, _], _ => rfl) (He.glo_ok X G (c.fact 53 (f := qf (.glo "TooMany")) rfl))
  obtain ⟨e5, E5⟩ := c.def_ 14 (d := mki "UnknownName" 13) rfl
  have k_UnknownName : ∀ base : Heap, OwnF PWd.P PWd.w K mg base "UnknownName" "name" := fun base => ownF_of (arg := "name") (c.fact 63 (f := oexB "UnknownName" "name" [.type "KeyError", .type "LookupError", .type "Exception", .type "BaseException", .type "object"] "LookupError.__new__") rfl) mk_KeyError tl_KeyError E5 ⟨rfl, rfl, rfl, by decide +kernel, rfl, by decide +kernel, by decide +kernel⟩ (by first | exact .inl rfl | exact .inr (.inl rfl) | exact .inr (.inr rfl)) (by first | exact .inl rfl | exact .inr (.inl rfl) | exact .inr (.inr rfl)) (by decide) (by decide) (fun _ => rfl) (E5.bindsN fun _ _ _ _ _ _ us hl => match us, hl with | [_, _], _ => rfl) (He.glo_ok X G (c.fact 54 (f := qf (.glo "UnknownName")) rfl))
  exact ⟨{
    a__law_dice := _
    d__law_dice := d0
    f__law_dice := F0
    g__law_dice := He.glo_ok X G (c.fact 0 (f := qf (.glo "_law_dice")) rfl)
    a__law_roll := _
    d__law_roll := d1
    f__law_roll := F1
    g__law_roll := He.glo_ok X G (c.fact 1 (f := qf (.glo "_law_roll")) rfl)
    a__law_one_of := _
    d__law_one_of := d2
    f__law_one_of := F2
    g__law_one_of := He.glo_ok X G (c.fact 2 (f := qf (.glo "_law_one_of")) rfl)
    a__law_kinds := _
    d__law_kinds := d3
    f__law_kinds := F3
    g__law_kinds := He.glo_ok X G (c.fact 3 (f := qf (.glo "_law_kinds")) rfl)
    a__law_bases := _
    d__law_bases := d4
    f__law_bases := F4
    g__law_bases := He.glo_ok X G (c.fact 4 (f := qf (.glo "_law_bases")) rfl)
    a__law_others := _
    d__law_others := d5
    f__law_others := F5
    g__law_others := He.glo_ok X G (c.fact 5 (f := qf (.glo "_law_others")) rfl)
    a__law_messages_right := _
    d__law_messages_right := d6
    f__law_messages_right := F6
    g__law_messages_right := He.glo_ok X G (c.fact 6 (f := qf (.glo "_law_messages_right")) rfl)
    a__law_values_right := _
    d__law_values_right := d7
    f__law_values_right := F7
    g__law_values_right := He.glo_ok X G (c.fact 7 (f := qf (.glo "_law_values_right")) rfl)
    a_law := _
    d_law := d8
    f_law := F8
    g_law := He.glo_ok X G (c.fact 8 (f := qf (.glo "law")) rfl)
    m_ArithmeticError := He.free_ok X G (c.fact 9 (f := qf (.free "ArithmeticError")) rfl)
    m_IndexError := He.free_ok X G (c.fact 10 (f := qf (.free "IndexError")) rfl)
    m_KeyError := He.free_ok X G (c.fact 11 (f := qf (.free "KeyError")) rfl)
    m_LookupError := He.free_ok X G (c.fact 12 (f := qf (.free "LookupError")) rfl)
    m_OverflowError := He.free_ok X G (c.fact 13 (f := qf (.free "OverflowError")) rfl)
    m_RuntimeError := He.free_ok X G (c.fact 14 (f := qf (.free "RuntimeError")) rfl)
    m_ValueError := He.free_ok X G (c.fact 15 (f := qf (.free "ValueError")) rfl)
    m_abs := He.free_ok X G (c.fact 16 (f := qf (.free "abs")) rfl)
    m_enumerate := He.free_ok X G (c.fact 17 (f := qf (.free "enumerate")) rfl)
    m_int := He.free_ok X G (c.fact 18 (f := qf (.free "int")) rfl)
    m_isinstance := He.free_ok X G (c.fact 19 (f := qf (.free "isinstance")) rfl)
    m_len := He.free_ok X G (c.fact 20 (f := qf (.free "len")) rfl)
    m_max := He.free_ok X G (c.fact 21 (f := qf (.free "max")) rfl)
    m_min := He.free_ok X G (c.fact 22 (f := qf (.free "min")) rfl)
    m_range := He.free_ok X G (c.fact 23 (f := qf (.free "range")) rfl)
    m_repr := He.free_ok X G (c.fact 24 (f := qf (.free "repr")) rfl)
    n_Apart := He.glo_ok X G (c.fact 49 (f := qf (.glo "Apart")) rfl)
    n_InvalidCommand := He.glo_ok X G (c.fact 25 (f := qf (.glo "InvalidCommand")) rfl)
    n_InvalidGraph := He.glo_ok X G (c.fact 27 (f := qf (.glo "InvalidGraph")) rfl)
    n_InvalidHalf := He.glo_ok X G (c.fact 29 (f := qf (.glo "InvalidHalf")) rfl)
    n_InvalidMatch := He.glo_ok X G (c.fact 31 (f := qf (.glo "InvalidMatch")) rfl)
    n_InvalidNumber := He.glo_ok X G (c.fact 50 (f := qf (.glo "InvalidNumber")) rfl)
    n_InvalidOperation := He.glo_ok X G (c.fact 33 (f := qf (.glo "InvalidOperation")) rfl)
    n_InvalidPattern := He.glo_ok X G (c.fact 35 (f := qf (.glo "InvalidPattern")) rfl)
    n_InvalidProgram := He.glo_ok X G (c.fact 37 (f := qf (.glo "InvalidProgram")) rfl)
    n_InvalidTester := He.glo_ok X G (c.fact 39 (f := qf (.glo "InvalidTester")) rfl)
    n_InvalidTypes := He.glo_ok X G (c.fact 41 (f := qf (.glo "InvalidTypes")) rfl)
    n_InvalidValue := He.glo_ok X G (c.fact 43 (f := qf (.glo "InvalidValue")) rfl)
    n_Knotted := He.glo_ok X G (c.fact 51 (f := qf (.glo "Knotted")) rfl)
    n_LookError := He.glo_ok X G (c.fact 45 (f := qf (.glo "LookError")) rfl)
    n_NothingToUndo := He.glo_ok X G (c.fact 52 (f := qf (.glo "NothingToUndo")) rfl)
    n_ParseError := He.glo_ok X G (c.fact 47 (f := qf (.glo "ParseError")) rfl)
    n_TooMany := He.glo_ok X G (c.fact 53 (f := qf (.glo "TooMany")) rfl)
    n_UnknownName := He.glo_ok X G (c.fact 54 (f := qf (.glo "UnknownName")) rfl)
    isx := (c.fact 55 (f := isxB XB_ XO_ XT_) rfl)
    fx := (c.fact 56 (f := fxB XF_) rfl)
    sm := (c.fact 57 (f := smK) rfl)
    k_Apart := k_Apart
    k_InvalidNumber := k_InvalidNumber
    k_Knotted := k_Knotted
    k_NothingToUndo := k_NothingToUndo
    k_TooMany := k_TooMany
    k_UnknownName := k_UnknownName
    x_InvalidCommand := ownX_of X G (c.fact 25 (f := qf (.glo "InvalidCommand")) rfl) (c.fact 26 (f := qf (.exc "InvalidCommand")) rfl)
    x_InvalidGraph := ownX_of X G (c.fact 27 (f := qf (.glo "InvalidGraph")) rfl) (c.fact 28 (f := qf (.exc "InvalidGraph")) rfl)
    x_InvalidHalf := ownX_of X G (c.fact 29 (f := qf (.glo "InvalidHalf")) rfl) (c.fact 30 (f := qf (.exc "InvalidHalf")) rfl)
    x_InvalidMatch := ownX_of X G (c.fact 31 (f := qf (.glo "InvalidMatch")) rfl) (c.fact 32 (f := qf (.exc "InvalidMatch")) rfl)
    x_InvalidOperation := ownX_of X G (c.fact 33 (f := qf (.glo "InvalidOperation")) rfl) (c.fact 34 (f := qf (.exc "InvalidOperation")) rfl)
    x_InvalidPattern := ownX_of X G (c.fact 35 (f := qf (.glo "InvalidPattern")) rfl) (c.fact 36 (f := qf (.exc "InvalidPattern")) rfl)
    x_InvalidProgram := ownX_of X G (c.fact 37 (f := qf (.glo "InvalidProgram")) rfl) (c.fact 38 (f := qf (.exc "InvalidProgram")) rfl)
    x_InvalidTester := ownX_of X G (c.fact 39 (f := qf (.glo "InvalidTester")) rfl) (c.fact 40 (f := qf (.exc "InvalidTester")) rfl)
    x_InvalidTypes := ownX_of X G (c.fact 41 (f := qf (.glo "InvalidTypes")) rfl) (c.fact 42 (f := qf (.exc "InvalidTypes")) rfl)
    x_InvalidValue := ownX_of X G (c.fact 43 (f := qf (.glo "InvalidValue")) rfl) (c.fact 44 (f := qf (.exc "InvalidValue")) rfl)
    x_LookError := ownX_of X G (c.fact 45 (f := qf (.glo "LookError")) rfl) (c.fact 46 (f := qf (.exc "LookError")) rfl)
    x_ParseError := ownX_of X G (c.fact 47 (f := qf (.glo "ParseError")) rfl) (c.fact 48 (f := qf (.exc "ParseError")) rfl) }⟩
end
/-- what is left of the law -/
theorem holds_of (main : ∀ ns : List Int, ns.length ≤ 63 → ∃ M', runB N_law u_law [.d (.rol (ns.map D.int))] [] = some (.ok (.d (.bl true)) M')) : PySem.Challenge.rw_mustlook_k00_errors.Holds := by
  w_on; o_law
  refine HandSHeadRun.head_any (r := R) (q := PySem.W.view R.prog [28]) (H := hk) (ob := ob) (M := 12000) (loose := loose) (d := HandSHeadRun.topDef R.prog 28) (kwd := []) ob_eq
    (by kernel_rfl) (fun s => by kernel_rfl) run (by kernel_rfl) (by kernel_rfl) (by kernel_rfl) (by rfl) (by first | assumption | decide +kernel) (by decide +kernel) ⟨rfl, rfl, rfl, rfl, rfl, by decide +kernel⟩ ?hw ?hc
  case hw => w_witness2
  case hc =>
    refine DL.law_end (l := PySem.Challenge.rw_mustlook_k00_errors) (k := 4) (x := "_law_script") (F := runB N_law u_law) rfl (by kernel_rfl) ⟨rfl, by decide, by decide⟩ ?_ main
    intro w mg fa h Y G hmg0
    letI : PWd := ⟨PySem.Challenge.rw_mustlook_k00_errors.prog, w⟩
    obtain ⟨K, KX, c⟩ := Y
    obtain ⟨T⟩ := top_of KX G c
    have hmg : mg ("law" : Str) = some (.ref fa) := by
      have e : (HandSHeadRun.topDef R.prog 28).name = ("law" : Str) := by kernel_rfl
      rw [← e]
      exact hmg0
    have ea : T.a_law = fa := by
      have := T.g_law.symm.trans hmg
      cases this
      rfl
    subst ea
    have b := FunD.bindsA (ps := ["_law_script"]) T.f_law fun _ _ _ _ _ _ us hl => match us, hl with | [_], _ => rfl
    exact ⟨K, T.d_law, KX, fun s v => b s [v] rfl, fun base _ _ => ok_law T⟩
end K00

theorem PySem.Challenge.cw_mustlook_k00_errors_holds : PySem.Challenge.rw_mustlook_k00_errors.Holds := by
  exact K00.holds_of K00.main
