import PyProof.Rows.All
import Wide.All
import OpenK.AllK
import Wide.FinOn
import HandS.ForMost
import HandS.Exc
import HandS.TryOnly
import HandS.TryMany
import HandS.ExcOwn
import HandS.WordsExc
import HandS.IsInst
import HandS.Flow
import HandS.TupAny
import HandS.More
import HandS.ExcCtx
import PyProof.Rows.SortShellAny
import PyProof.Rows.StrMeet
import HandS.ExcIs
import KE.RegKIsAll
import PyProof.EqKinds
import PyProof.NeKinds
import PyProof.P3Eq
import PyProof.FactsAll.dict_1
import PyProof.FactsAll.dict_2
import PyProof.FactsAll.subtypes_4
import HandS.HotCalls
import HandS.Iter
import HandS.Comp
import KE.GoesComp
import PySem.Challenge.RW_readwriteroom_k12_texts_refused
set_option Elab.async false
set_option linter.all false
set_option maxRecDepth 100000
set_option maxHeartbeats 4000000
/-! The data layer: readings of a def over plain data, once for all defs -/
namespace DL
open PySem L2

/-! ### data -/
inductive D where
  | non | bl (b : Bool) | int (i : Int) | str (s : Str)
  | lst (xs : List D) | tup (xs : List D) | dic (kvs : List (Str × D)) | scr (ns : List Int) | obj (a : Addr) | ty (n : String)

/-- sound signs, a length that fits -/
def strOk (s : Str) : Bool := PyData.strOk s && decide (s.length ≤ 16777216)
theorem strOk_snd {s : Str} (h : strOk s = true) : PyData.strOk s = true := (Bool.and_eq_true_iff.mp h).1
theorem strOk_len {s : Str} (h : strOk s = true) : s.length ≤ sizeLine := by
  have := of_decide_eq_true (Bool.and_eq_true_iff.mp h).2
  rw [sizeLine_eq]; exact this
theorem strOk_mk {s : Str} (h : PyData.strOk s = true) (k : s.length ≤ sizeLine) : strOk s = true := by
  rw [sizeLine_eq] at k
  exact Bool.and_eq_true_iff.mpr ⟨h, decide_eq_true k⟩

mutual
inductive Rep (K : PySem.W.Frag) (G : Hp) : V → D → Prop
  | non : Rep K G .non .non
  | bl (b : Bool) : Rep K G (.bl b) (.bl b)
  | int (i : Int) : Rep K G (.int i) (.int i)
  | str (s : Str) : strOk s = true → Rep K G (.str s) (.str s)
  | lst {a : Addr} {vs : List V} {ds : List D} : G a = some (.lst vs) → RepL K G vs ds → ds.length ≤ sizeLine → Rep K G (.ref a) (.lst ds)
  | tup {a : Addr} {vs : List V} {ds : List D} : G a = some (.tup vs) → RepL K G vs ds → ds.length ≤ sizeLine → Rep K G (.ref a) (.tup ds)
  | dic {a : Addr} {kv : List (Key × V)} {ds : List (Str × D)} : G a = some (.dK kv) → kv.map (·.1) = ds.map (fun p => Sum.inr p.1) → RepL K G (kv.map (·.2)) (ds.map (·.2)) → Rep K G (.ref a) (.dic ds)
  | scr {a : Addr} {ns : List Int} : SqL K G a (ns.map V.int) → Rep K G (.ref a) (.scr ns)
  | obj (a : Addr) : Rep K G (.ref a) (.obj a)
  | ty (n : String) : Rep K G (.ty n) (.ty n)
inductive RepL (K : PySem.W.Frag) (G : Hp) : List V → List D → Prop
  | nil : RepL K G [] []
  | cons {v : V} {vs : List V} {d : D} {ds : List D} : Rep K G v d → RepL K G vs ds → RepL K G (v :: vs) (d :: ds)
end

section
variable {K : PySem.W.Frag} {G G' : Hp}
mutual
theorem Rep.mono (e : Same G G') : ∀ {v : V} {d : D}, Rep K G v d → Rep K G' v d
  | _, _, .non => .non
  | _, _, .bl b => .bl b
  | _, _, .int i => .int i
  | _, _, .str s h => .str s h
  | _, _, .lst h r z => .lst (e _ _ h) (RepL.mono e r) z
  | _, _, .tup h r z => .tup (e _ _ h) (RepL.mono e r) z
  | _, _, .dic h k r => .dic (e _ _ h) k (RepL.mono e r)
  | _, _, .scr h => .scr (e.seq h)
  | _, _, .obj a => .obj a
  | _, _, .ty n => .ty n
theorem RepL.mono (e : Same G G') : ∀ {vs : List V} {ds : List D}, RepL K G vs ds → RepL K G' vs ds
  | _, _, .nil => .nil
  | _, _, .cons h t => .cons (Rep.mono e h) (RepL.mono e t)
end
theorem RepL.len : ∀ {vs : List V} {ds : List D}, RepL K G vs ds → vs.length = ds.length
  | _, _, .nil => rfl
  | _, _, .cons _ t => by rw [List.length_cons, List.length_cons, t.len]
theorem RepL.get : ∀ {vs : List V} {ds : List D} {i : Nat} {v : V}, RepL K G vs ds → vs[i]? = some v → ∃ d, ds[i]? = some d ∧ Rep K G v d
  | _, _, _, _, .nil, e => by simp at e
  | _, _, 0, _, .cons r _, e => by simp at e; subst e; exact ⟨_, rfl, r⟩
  | _, _, i + 1, v, .cons _ t, e => by
    obtain ⟨u, h1, h2⟩ := RepL.get (i := i) (v := v) t (by simpa using e)
    exact ⟨u, by simpa using h1, h2⟩
theorem RepL.at : ∀ {vs : List V} {ds : List D} {i : Nat} {d : D}, RepL K G vs ds → ds[i]? = some d → ∃ v, vs[i]? = some v ∧ Rep K G v d
  | _, _, _, _, .nil, e => by simp at e
  | _, _, 0, _, .cons r _, e => by simp at e; subst e; exact ⟨_, rfl, r⟩
  | _, _, i + 1, d, .cons _ t, e => by
    obtain ⟨u, h1, h2⟩ := RepL.at (i := i) (d := d) t (by simpa using e)
    exact ⟨u, by simpa using h1, h2⟩
theorem RepL.append : ∀ {vs ws : List V} {ds es : List D}, RepL K G vs ds → RepL K G ws es → RepL K G (vs ++ ws) (ds ++ es)
  | _, _, _, _, .nil, s => s
  | _, _, _, _, .cons r t, s => .cons r (RepL.append t s)
theorem RepL.take : ∀ {vs : List V} {ds : List D} (n : Nat), RepL K G vs ds → RepL K G (vs.take n) (ds.take n)
  | _, _, 0, _ => .nil
  | _, _, _ + 1, .nil => .nil
  | _, _, n + 1, .cons r t => .cons r (RepL.take n t)
theorem RepL.drop : ∀ {vs : List V} {ds : List D} (n : Nat), RepL K G vs ds → RepL K G (vs.drop n) (ds.drop n)
  | _, _, 0, r => r
  | _, _, _ + 1, .nil => .nil
  | _, _, n + 1, .cons _ t => RepL.drop n t
theorem RepL.erase : ∀ {vs : List V} {ds : List D} (n : Nat), RepL K G vs ds → RepL K G (vs.eraseIdx n) (ds.eraseIdx n)
  | _, _, _, .nil => .nil
  | _, _, 0, .cons _ t => t
  | _, _, n + 1, .cons r t => .cons r (RepL.erase n t)
theorem RepL.one {v : V} {d : D} (h : Rep K G v d) : RepL K G [v] [d] := .cons h .nil
theorem RepL.ints : ∀ (ns : List Int), RepL K G (ns.map V.int) (ns.map D.int)
  | [] => .nil
  | i :: r => .cons (.int i) (RepL.ints r)
end

/-! ### what may change: by its address -/
inductive MO where
  | lst (ds : List D) | dic (kvs : List (Str × D)) | ins (C : Addr) (fs : List (Str × D))
abbrev Mem := Addr → Option MO
def Mem.set (M : Mem) (a : Addr) (o : MO) : Mem := fun b => if b = a then some o else M b
def Mem.del (M : Mem) (a : Addr) : Mem := fun b => if b = a then none else M b
theorem Mem.set_same {M : Mem} {a : Addr} {o : MO} : M.set a o a = some o := by unfold Mem.set; rw [if_pos rfl]
theorem Mem.set_ne {M : Mem} {a b : Addr} {o : MO} (h : b ≠ a) : M.set a o b = M b := by unfold Mem.set; rw [if_neg h]
theorem Mem.del_same {M : Mem} {a : Addr} : M.del a a = none := by unfold Mem.del; rw [if_pos rfl]
theorem Mem.del_ne {M : Mem} {a b : Addr} (h : b ≠ a) : M.del a b = M b := by unfold Mem.del; rw [if_neg h]
theorem Mem.set_set {M : Mem} {a : Addr} {o u : MO} : (M.set a o).set a u = M.set a u := by
  funext b; unfold Mem.set; split <;> rfl
theorem Mem.del_set {M : Mem} {a : Addr} {o : MO} (h : M a = none) : (M.set a o).del a = M := by
  funext b
  show (if b = a then none else if b = a then some o else M b) = M b
  by_cases e : b = a
  · rw [if_pos e, e, h]
  · rw [if_neg e, if_neg e]
theorem Mem.set_eq {M : Mem} {a : Addr} {o : MO} (h : M a = some o) : M.set a o = M := by
  funext b
  show (if b = a then some o else M b) = M b
  by_cases e : b = a
  · rw [if_pos e, e, h]
  · rw [if_neg e]
theorem Mem.set_comm {M : Mem} {a b : Addr} {o u : MO} (h : a ≠ b) : (M.set a o).set b u = (M.set b u).set a o := by
  funext c
  show (if c = b then some u else if c = a then some o else M c) = (if c = a then some o else if c = b then some u else M c)
  by_cases e : c = b
  · subst e; rw [if_pos rfl, if_neg (Ne.symm h), if_pos rfl]
  · rw [if_neg e]
    by_cases e2 : c = a
    · rw [if_pos e2, if_pos e2]
    · rw [if_neg e2, if_neg e2, if_neg e]
def Mem.Sub (M N : Mem) : Prop := ∀ a o, M a = some o → N a = some o
theorem Mem.Sub.refl (M : Mem) : M.Sub M := fun _ _ h => h
theorem Mem.Sub.trans {M N P : Mem} (h : M.Sub N) (k : N.Sub P) : M.Sub P := fun a o e => k a o (h a o e)
theorem Mem.sub_set {M : Mem} {a : Addr} {o : MO} (h : M a = none) : M.Sub (M.set a o) := fun b u e => by
  rw [Mem.set_ne (fun z => by rw [z, h] at e; cases e)]; exact e
theorem Mem.sub_del {M : Mem} {a : Addr} : (M.del a).Sub M := fun b u e => by
  by_cases h : b = a
  · rw [h, Mem.del_same] at e; cases e
  · rw [Mem.del_ne h] at e; exact e

def MOk (K : PySem.W.Frag) (H G : Hp) (a : Addr) : MO → Prop
  | .lst ds => ∃ vs, H a = some (.lst vs) ∧ RepL K G vs ds ∧ ds.length ≤ sizeLine
  | .dic kvs => ∃ kv, H a = some (.dK kv) ∧ kv.map (·.1) = kvs.map (fun p => (Sum.inr p.1 : Key)) ∧ RepL K G (kv.map (·.2)) (kvs.map (·.2))
  | .ins C fs => ∃ dx fv, H a = some (.ins C dx fv) ∧ fv.map (·.1) = fs.map (·.1) ∧ RepL K G (fv.map (·.2)) (fs.map (·.2))
structure Ok (K : PySem.W.Frag) (H G : Hp) (M : Mem) : Prop where
  sub : Same G H
  mem : ∀ a o, M a = some o → G a = none ∧ MOk K H G a o
section
variable {K : PySem.W.Frag} {H H' G G' : Hp} {M M' : Mem} {a p : Addr} {o : HO} {m : MO}
theorem MOk.there (h : MOk K H G a m) : ∃ u, H a = some u := by
  cases m with
  | lst ds => obtain ⟨vs, e, _⟩ := h; exact ⟨_, e⟩
  | dic kvs => obtain ⟨vs, e, _⟩ := h; exact ⟨_, e⟩
  | ins C fs => obtain ⟨dx, fv, e, _⟩ := h; exact ⟨_, e⟩
theorem MOk.mono (h : MOk K H G a m) (e : H a = H' a) (g : Same G G') : MOk K H' G' a m := by
  cases m with
  | lst ds => obtain ⟨vs, h1, h2, z⟩ := h; exact ⟨vs, e ▸ h1, h2.mono g, z⟩
  | dic kvs => obtain ⟨vs, h1, k, h2⟩ := h; exact ⟨vs, e ▸ h1, k, h2.mono g⟩
  | ins C fs => obtain ⟨dx, fv, h1, k, h2⟩ := h; exact ⟨dx, fv, e ▸ h1, k, h2.mono g⟩
theorem Ok.ne (ok : Ok K H G M) (h : H p = none) (e : M a = some m) : a ≠ p := fun z => by
  obtain ⟨u, q⟩ := (ok.mem a m e).2.there
  rw [z, h] at q; cases q
theorem Ok.gnone (ok : Ok K H G M) (h : H p = none) : G p = none := ok.sub.free h
theorem Ok.mnone (ok : Ok K H G M) (h : H p = none) : M p = none := by
  cases e : M p with
  | none => rfl
  | some m => exact absurd rfl (ok.ne h e)
theorem Ok.weak (ok : Ok K H G M) (s : M'.Sub M) : Ok K H G M' := ⟨ok.sub, fun a o e => ok.mem a o (s a o e)⟩
theorem same_upd (h : G p = none) : Same G (upd G p o) := fun b u e => by rw [upd_ne (ne_of_none e h)]; exact e
/-- a new object that never changes -/
theorem Ok.frozen (ok : Ok K H G M) (h : H p = none) : Ok K (upd H p o) (upd G p o) M := by
  refine ⟨fun b u e => ?_, fun b u e => ?_⟩
  · by_cases hb : b = p
    · subst hb; rw [upd_same] at e ⊢; exact e
    · rw [upd_ne hb] at e ⊢; exact ok.sub b u e
  · have hb := ok.ne h e
    obtain ⟨h1, h2⟩ := ok.mem b u e
    exact ⟨by rw [upd_ne hb]; exact h1, h2.mono (by rw [upd_ne hb]) (same_upd (ok.gnone h))⟩
/-- a new object that nobody looks at -/
theorem Ok.extra (ok : Ok K H G M) (h : H p = none) : Ok K (upd H p o) G M := by
  refine ⟨fun b u e => ?_, fun b u e => ?_⟩
  · rw [upd_ne (ne_of_none (ok.sub b u e) h)]; exact ok.sub b u e
  · have hb := ok.ne h e
    obtain ⟨h1, h2⟩ := ok.mem b u e
    exact ⟨h1, h2.mono (by rw [upd_ne hb]) (Same.refl _)⟩
/-- an object written or laid that may change -/
theorem Ok.write (ok : Ok K H G M) (h : G a = none) (q : MOk K (upd H a o) G a m) : Ok K (upd H a o) G (M.set a m) := by
  refine ⟨fun b u e => ?_, fun b u e => ?_⟩
  · rw [upd_ne (ne_of_none e h)]; exact ok.sub b u e
  · by_cases hb : b = a
    · subst hb; rw [Mem.set_same] at e; cases e; exact ⟨h, q⟩
    · rw [Mem.set_ne hb] at e
      obtain ⟨h1, h2⟩ := ok.mem b u e
      exact ⟨h1, h2.mono (by rw [upd_ne hb]) (Same.refl _)⟩
/-- what may change no longer does -/
theorem Ok.freeze (ok : Ok K H G M) (e : M a = some m) (hH : H a = some o) : Ok K H (upd G a o) (M.del a) := by
  refine ⟨fun b u q => ?_, fun b u q => ?_⟩
  · by_cases hb : b = a
    · subst hb; rw [upd_same] at q; cases q; exact hH
    · rw [upd_ne hb] at q; exact ok.sub b u q
  · by_cases hb : b = a
    · rw [hb, Mem.del_same] at q; cases q
    · rw [Mem.del_ne hb] at q
      obtain ⟨h1, h2⟩ := ok.mem b u q
      exact ⟨by rw [upd_ne hb]; exact h1, h2.mono rfl (same_upd (ok.mem a m e).1)⟩
end

/-! ### readings over data -/
abbrev DS := List (Option D)
abbrev QD := D → Mem → Prop
abbrev XD := Addr → DS → Mem → Prop
abbrev DE := DS → Mem → QD → XD → Prop
abbrev DT := DS → Mem → (Bool → Mem → Prop) → XD → Prop
abbrev DA := DS → Mem → (List D → Mem → Prop) → XD → Prop
abbrev DO := DS → Mem → (Option Int → Mem → Prop) → XD → Prop
structure DEnds where
  nx : DS → Mem → Prop
  rt : QD
  bk : DS → Mem → Prop := fun _ _ => False
  ct : DS → Mem → Prop := fun _ _ => False
  xc : XD := fun _ _ _ => False
abbrev DSt := DEnds → DS → Mem → Prop

inductive SlotR (K : PySem.W.Frag) (G : Hp) : Option V → Option D → Prop
  | no {x : Option V} : SlotR K G x none
  | yes {v : V} {d : D} : Rep K G v d → SlotR K G (some v) (some d)
abbrev Slots (K : PySem.W.Frag) (G : Hp) : L2.St → DS → Prop := Paired (SlotR K G)
section
variable {K : PySem.W.Frag} {G G' : Hp}
theorem SlotR.mono (e : Same G G') {x : Option V} {y : Option D} (h : SlotR K G x y) : SlotR K G' x y := by
  cases h with
  | no => exact .no
  | yes r => exact .yes (r.mono e)
theorem Slots.mono (e : Same G G') {σ : L2.St} {δ : DS} (h : Slots K G σ δ) : Slots K G' σ δ := Paired.mapP h fun _ _ r => r.mono e
theorem Slots.set {x : Option V} {y : Option D} (r : SlotR K G x y) : ∀ {σ : L2.St} {δ : DS} (i : Nat), Slots K G σ δ → Slots K G (σ.set i x) (δ.set i y)
  | _, _, _, .nil => .nil
  | _, _, 0, .cons _ t => .cons r t
  | _, _, i + 1, .cons q t => .cons q (Slots.set r i t)
def slot : DS → Nat → Option D
  | [], _ => none
  | x :: _, 0 => x
  | _ :: r, n + 1 => slot r n
theorem Slots.get {d : D} : ∀ {σ : L2.St} {δ : DS} {i : Nat}, Slots K G σ δ → slot δ i = some d → ∃ v, σ[i]? = some (some v) ∧ Rep K G v d
  | _, _, _, .nil, e => by cases e
  | _, _, 0, .cons (a := x) (b := y) r t, e => by
    have e' : y = some d := e
    subst e'
    cases r with
    | yes r => exact ⟨_, rfl, r⟩
  | _, _, i + 1, .cons _ t, e => by
    obtain ⟨v, h1, h2⟩ := Slots.get (i := i) t e
    exact ⟨v, by simpa using h1, h2⟩
def dwipe (δ : DS) : List Nat → DS
  | [] => δ
  | v :: vs => (dwipe δ vs).set v none
theorem Slots.wipe {σ : L2.St} {δ : DS} (h : Slots K G σ δ) : ∀ vs : List Nat, Slots K G (wipe σ vs) (dwipe δ vs)
  | [] => h
  | v :: vs => Slots.set .no v (Slots.wipe h vs)
end

def WOk (K : PySem.W.Frag) (W : WX) (G : Hp) (X : XD) : Prop := ∀ cls δ M σ H G', X cls δ M → Ok K H G' M → Same G G' → Slots K G' σ δ → W (.ref cls) none σ H
theorem WOk.mono {K : PySem.W.Frag} {W : WX} {G G1 : Hp} {X : XD} (h : WOk K W G X) (e : Same G G1) : WOk K W G1 X := fun cls δ M σ H G' x ok s sl => h cls δ M σ H G' x ok (e.trans s) sl
theorem WOk.bot {K : PySem.W.Frag} {W : WX} {G : Hp} : WOk K W G (fun _ _ _ => False) := fun _ _ _ _ _ _ z => z.elim
abbrev W0 : WX := fun _ _ _ _ => False
def up (K : PySem.W.Frag) (W : WX) (t : DE) : TE := fun σ H Q => ∃ (G : Hp) (M : Mem) (δ : DS) (Q' : QD) (X' : XD), Ok K H G M ∧ Slots K G σ δ ∧ t δ M Q' X' ∧
  (∀ d M' v H' G', Q' d M' → Ok K H' G' M' → Same G G' → Rep K G' v d → Q v H') ∧ WOk K W G X'
def upT (K : PySem.W.Frag) (W : WX) (t : DT) : TT := fun σ H Q => ∃ (G : Hp) (M : Mem) (δ : DS) (Q' : Bool → Mem → Prop) (X' : XD), Ok K H G M ∧ Slots K G σ δ ∧ t δ M Q' X' ∧
  (∀ d M' H' G', Q' d M' → Ok K H' G' M' → Same G G' → Q d H') ∧ WOk K W G X'
def upA (K : PySem.W.Frag) (W : WX) (t : DA) : TA := fun σ H Q => ∃ (G : Hp) (M : Mem) (δ : DS) (Q' : List D → Mem → Prop) (X' : XD), Ok K H G M ∧ Slots K G σ δ ∧ t δ M Q' X' ∧
  (∀ ds M' vs H' G', Q' ds M' → Ok K H' G' M' → Same G G' → RepL K G' vs ds → Q vs H') ∧ WOk K W G X'
def upO (K : PySem.W.Frag) (W : WX) (t : DO) : TO := fun σ H Q => ∃ (G : Hp) (M : Mem) (δ : DS) (Q' : Option Int → Mem → Prop) (X' : XD), Ok K H G M ∧ Slots K G σ δ ∧ t δ M Q' X' ∧
  (∀ d M' H' G', Q' d M' → Ok K H' G' M' → Same G G' → Q d H') ∧ WOk K W G X'
/-- what a statement is to reach, over data, gives what it is to reach -/
structure EOk (K : PySem.W.Frag) (W : WX) (G : Hp) (E : DEnds) (D' : Ends) : Prop where
  nx : ∀ δ M σ H G', E.nx δ M → Ok K H G' M → Same G G' → Slots K G' σ δ → D'.nx σ H
  rt : ∀ d M v H G', E.rt d M → Ok K H G' M → Same G G' → Rep K G' v d → D'.rt v H
  bk : ∀ δ M σ H G', E.bk δ M → Ok K H G' M → Same G G' → Slots K G' σ δ → D'.bk σ H
  ct : ∀ δ M σ H G', E.ct δ M → Ok K H G' M → Same G G' → Slots K G' σ δ → D'.ct σ H
  xc : WOk K W G E.xc
def upS (K : PySem.W.Frag) (W : WX) (t : DSt) : TS := fun D' σ H => ∃ (G : Hp) (M : Mem) (δ : DS) (E : DEnds), Ok K H G M ∧ Slots K G σ δ ∧ t E δ M ∧ EOk K W G E D'

abbrev PD (X : Cx) (W : WX) (e : Expr) (t : DE) : Prop := PE X e (up X.K W t)
abbrev PDT (X : Cx) (W : WX) (e : Expr) (t : DT) : Prop := PT X e (upT X.K W t)
abbrev PDW (X : Cx) (W : WX) (e : Expr) (t : DT) : Prop := PW X e (upT X.K W t)
abbrev PDA (X : Cx) (W : WX) (es : List Expr) (t : DA) : Prop := PA X es (upA X.K W t)
abbrev PDO (X : Cx) (W : WX) (e : Option Expr) (t : DO) : Prop := PO X e (upO X.K W t)
abbrev PDS (X : Cx) (W : WX) (s : Stmt) (t : DSt) : Prop := PS X s (upS X.K W t)
abbrev PDSs (X : Cx) (W : WX) (s : List Stmt) (t : DSt) : Prop := PSs X s (upS X.K W t)

section
variable {X : Cx}
theorem PEw {e : Expr} {t t' : TE} (h : PE X e t) (w : ∀ σ H Q, t' σ H Q → t σ H Q) : PE X e t' := ⟨fun pins s σ H Q I q => h.run pins s σ H Q I (w σ H Q q)⟩
theorem PTw {e : Expr} {t t' : TT} (h : PT X e t) (w : ∀ σ H Q, t' σ H Q → t σ H Q) : PT X e t' := ⟨fun pins s σ H Q I q => h.run pins s σ H Q I (w σ H Q q)⟩
theorem PWw {e : Expr} {t t' : TT} (h : PW X e t) (w : ∀ σ H Q, t' σ H Q → t σ H Q) : PW X e t' := ⟨fun wh pins s σ H Q I q => h.run wh pins s σ H Q I (w σ H Q q)⟩
theorem PAw {e : List Expr} {t t' : TA} (h : PA X e t) (w : ∀ σ H Q, t' σ H Q → t σ H Q) : PA X e t' := ⟨fun pos pins s σ H Q I q => h.run pos pins s σ H Q I (w σ H Q q)⟩
theorem PSw {e : Stmt} {t t' : TS} (h : PS X e t) (w : ∀ D σ H, t' D σ H → t D σ H) : PS X e t' := ⟨fun pins s σ H D I q => h.run pins s σ H D I (w D σ H q)⟩
theorem PSsw {e : List Stmt} {t t' : TS} (h : PSs X e t) (w : ∀ D σ H, t' D σ H → t D σ H) : PSs X e t' := ⟨fun pins s σ H D I q => h.run pins s σ H D I (w D σ H q)⟩
theorem PE.or {e : Expr} {t u : TE} (h : PE X e t) (k : PE X e u) : PE X e (fun σ H Q => t σ H Q ∨ u σ H Q) :=
  ⟨fun pins s σ H Q I q => q.elim (fun z => h.run pins s σ H Q I z) (fun z => k.run pins s σ H Q I z)⟩
theorem OpR.or {f : Value → Value → Sem Value} {r r' : R2} (h : OpR X f r) (h' : OpR X f r') : OpR X f (fun x y H Q => r x y H Q ∨ r' x y H Q) :=
  fun pins s σ H x y v u Q I rx ry q => q.elim (fun z => h pins s σ H x y v u Q I rx ry z) (fun z => h' pins s σ H x y v u Q I rx ry z)
end
end DL

/-! The data layer: expressions -/
namespace DL
open PySem L2

/-- what is to be read at an address that may change -/
def resO (a : Addr) : Option MO → D
  | some (.lst ds) => .lst ds
  | some (.dic kvs) => .dic kvs
  | _ => .obj a
def res (M : Mem) : D → D
  | .obj a => resO a (M a)
  | .non => .non
  | .bl b => .bl b
  | .int i => .int i
  | .str s => .str s
  | .lst xs => .lst xs
  | .tup xs => .tup xs
  | .dic kvs => .dic kvs
  | .scr ns => .scr ns
  | .ty n => .ty n
section
variable {K : PySem.W.Frag} {H G : Hp} {M : Mem} {v : V} {d : D}
theorem Rep.obj_lst {a : Addr} {ds : List D} (ok : Ok K H G M) (e : resO a (M a) = .lst ds) : M a = some (.lst ds) := by
  cases q : M a with
  | none => rw [q] at e; cases e
  | some m =>
    rw [q] at e
    cases m with
    | lst es => cases e; rfl
    | dic kvs => cases e
    | ins C fs => cases e
theorem Rep.obj_dic {a : Addr} {ds : List (Str × D)} (ok : Ok K H G M) (e : resO a (M a) = .dic ds) : M a = some (.dic ds) := by
  cases q : M a with
  | none => rw [q] at e; cases e
  | some m =>
    rw [q] at e
    cases m with
    | lst es => cases e
    | dic kvs => cases e; rfl
    | ins C fs => cases e
theorem resO_ne {a : Addr} {o : Option MO} {d : D} (e : resO a o = d) : (∃ ds, d = .lst ds) ∨ (∃ kvs, d = .dic kvs) ∨ d = .obj a := by
  subst e
  cases o with
  | none => exact .inr (.inr rfl)
  | some m =>
    cases m with
    | lst es => exact .inl ⟨_, rfl⟩
    | dic kvs => exact .inr (.inl ⟨_, rfl⟩)
    | ins C fs => exact .inr (.inr rfl)
theorem Rep.lstOf {ds : List D} (ok : Ok K H G M) (r : Rep K G v d) (e : res M d = .lst ds) : ∃ a vs, v = .ref a ∧ H a = some (.lst vs) ∧ RepL K G vs ds ∧ ds.length ≤ sizeLine := by
  cases r with
  | lst h q z => cases e; exact ⟨_, _, rfl, ok.sub _ _ h, q, z⟩
  | obj a =>
    obtain ⟨_, vs, h1, h2, z⟩ := ok.mem _ _ (Rep.obj_lst ok e)
    exact ⟨_, vs, rfl, h1, h2, z⟩
  | non => cases e
  | bl => cases e
  | int => cases e
  | str => cases e
  | tup => cases e
  | dic => cases e
  | scr => cases e
  | ty => cases e
theorem Rep.dicOf {ds : List (Str × D)} (ok : Ok K H G M) (r : Rep K G v d) (e : res M d = .dic ds) : ∃ a kv, v = .ref a ∧ H a = some (.dK kv) ∧ kv.map (·.1) = ds.map (fun p => (Sum.inr p.1 : Key)) ∧ RepL K G (kv.map (·.2)) (ds.map (·.2)) := by
  cases r with
  | dic h k q => cases e; exact ⟨_, _, rfl, ok.sub _ _ h, k, q⟩
  | obj a =>
    obtain ⟨_, vs, h1, h2, z⟩ := ok.mem _ _ (Rep.obj_dic ok e)
    exact ⟨_, vs, rfl, h1, h2, z⟩
  | non => cases e
  | bl => cases e
  | int => cases e
  | str => cases e
  | tup => cases e
  | lst => cases e
  | scr => cases e
  | ty => cases e
theorem Rep.tupOf {ds : List D} (ok : Ok K H G M) (r : Rep K G v d) (e : res M d = .tup ds) : ∃ a vs, v = .ref a ∧ H a = some (.tup vs) ∧ RepL K G vs ds ∧ ds.length ≤ sizeLine := by
  cases r with
  | tup h q z => cases e; exact ⟨_, _, rfl, ok.sub _ _ h, q, z⟩
  | obj a => rcases resO_ne e with ⟨_, z⟩ | ⟨_, z⟩ | z <;> cases z
  | non => cases e
  | bl => cases e
  | int => cases e
  | str => cases e
  | lst => cases e
  | dic => cases e
  | scr => cases e
  | ty => cases e
theorem Rep.scrOf {ns : List Int} (ok : Ok K H G M) (r : Rep K G v d) (e : res M d = .scr ns) : ∃ a, v = .ref a ∧ SqL K H a (ns.map V.int) := by
  cases r with
  | scr h => cases e; exact ⟨_, rfl, ok.sub.seq h⟩
  | obj a => rcases resO_ne e with ⟨_, z⟩ | ⟨_, z⟩ | z <;> cases z
  | non => cases e
  | bl => cases e
  | int => cases e
  | str => cases e
  | lst => cases e
  | tup => cases e
  | dic => cases e
  | ty => cases e
theorem Rep.intOf {i : Int} (r : Rep K G v d) (e : res M d = .int i) : v = .int i := by
  cases r with
  | int => cases e; rfl
  | obj a => rcases resO_ne e with ⟨_, z⟩ | ⟨_, z⟩ | z <;> cases z
  | _ => cases e
theorem Rep.strOf {s : Str} (r : Rep K G v d) (e : res M d = .str s) : v = .str s ∧ strOk s = true := by
  cases r with
  | str _ h => cases e; exact ⟨rfl, h⟩
  | obj a => rcases resO_ne e with ⟨_, z⟩ | ⟨_, z⟩ | z <;> cases z
  | _ => cases e
theorem Rep.blOf {b : Bool} (r : Rep K G v d) (e : res M d = .bl b) : v = .bl b := by
  cases r with
  | bl => cases e; rfl
  | obj a => rcases resO_ne e with ⟨_, z⟩ | ⟨_, z⟩ | z <;> cases z
  | _ => cases e
theorem Rep.nonOf (r : Rep K G v d) (e : res M d = .non) : v = .non := by
  cases r with
  | non => rfl
  | obj a => rcases resO_ne e with ⟨_, z⟩ | ⟨_, z⟩ | z <;> cases z
  | _ => cases e
end

theorem res_tup {M : Mem} {d : D} {ds : List D} (e : res M d = .tup ds) : d = .tup ds := by
  cases d with
  | obj a => rcases resO_ne (show resO a (M a) = _ from e) with ⟨_, z⟩ | ⟨_, z⟩ | z <;> cases z
  | _ => exact e
/-! ### texts that are sound -/
theorem len_append (a b : Str) : (a ++ b).length = a.length + b.length := by
  show (a.cps ++ b.cps).size = a.cps.size + b.cps.size
  exact Array.size_append
theorem strOk_append {a b : Str} (h : strOk a = true) (k : strOk b = true) (l : a.length + b.length ≤ sizeLine) : strOk (a ++ b) = true := by
  refine strOk_mk ?_ (by rw [len_append]; exact l)
  have h := strOk_snd h
  have k := strOk_snd k
  unfold PyData.strOk at *
  rw [show (a ++ b).cps = a.cps ++ b.cps from rfl]
  simp_all [Array.all_append]

/-! ### names, constants, operators -/
def el {α : Type} : Option α → (α → Prop) → Prop
  | some d, F => F d
  | none, _ => False
theorem el_of {α : Type} {o : Option α} {F : α → Prop} (h : el o F) : ∃ d, o = some d ∧ F d := by
  cases o with
  | none => exact h.elim
  | some d => exact ⟨d, rfl, h⟩
def dVar (i : Nat) : DE := fun δ M Q _ => el (slot δ i) fun d => Q d M
def dC (d : D) : DE := fun _ M Q _ => Q d M
def dOp (o : D → D → Mem → QD → Prop) (ta tb : DE) : DE := fun δ M Q X => ta δ M (fun x M1 => tb δ M1 (fun y M2 => o x y M2 Q) X) X
def dUn (o : D → Mem → QD → Prop) (ta : DE) : DE := fun δ M Q X => ta δ M (fun x M1 => o x M1 Q) X
def LOp (K : PySem.W.Frag) (r : R2) (o : D → D → Mem → QD → Prop) : Prop := ∀ (x y : V) (H G : Hp) (M : Mem) (dx dy : D) (Q : VK) (Q' : QD), Ok K H G M → Rep K G x dx → Rep K G y dy → o dx dy M Q' →
  (∀ d M' v H' G', Q' d M' → Ok K H' G' M' → Same G G' → Rep K G' v d → Q v H') → r x y H Q
def LUn (K : PySem.W.Frag) (r : V → Hp → VK → Prop) (o : D → Mem → QD → Prop) : Prop := ∀ (x : V) (H G : Hp) (M : Mem) (dx : D) (Q : VK) (Q' : QD), Ok K H G M → Rep K G x dx → o dx M Q' →
  (∀ d M' v H' G', Q' d M' → Ok K H' G' M' → Same G G' → Rep K G' v d → Q v H') → r x H Q
section
variable {X : Cx} {W : WX} {a b c e : Expr} {ta tb tc te : DE} {pos : Pos} {K : PySem.W.Frag}
theorem pd_v (i : Nat) {x : Str} {pos : Pos} (hN : X.N[i]? = some x := by rfl) (hv : Vis X.env.scope x := by first | exact Or.inl rfl | exact Or.inr (Or.inl rfl) | exact Or.inr (Or.inr rfl)) (hd : (x == ("__debug__" : Str)) = false := by decide)
    (hcd : (x == ("__classdict__" : Str)) = false := by decide) : PD X W (.Name x pos) (dVar i) := by
  refine PEw (pe_var hN hv hd hcd) fun σ H Q ⟨G, M, δ, Q', X', ok, sl, h, hq, hx⟩ => ?_
  obtain ⟨d, e, h⟩ := el_of h
  obtain ⟨v, h1, h2⟩ := sl.get e
  exact ⟨v, h1, hq d M v H G h ok (Same.refl _) h2⟩
theorem pd_c {v : V} {d : D} (h : PE X e (tC v)) (r : ∀ G, Rep X.K G v d) : PD X W e (dC d) :=
  PEw h fun σ H Q ⟨G, M, δ, Q', X', ok, sl, h, hq, hx⟩ => hq d M v H G h ok (Same.refl _) (r G)
theorem pd_int {i j pos} : PD X W (.Constant (.int i) j pos) (dC (.int i)) := pd_c pe_int fun _ => .int i
theorem pd_bl {b j pos} : PD X W (.Constant (.bool b) j pos) (dC (.bl b)) := pd_c pe_bl fun _ => .bl b
theorem pd_non {j pos} : PD X W (.Constant .none j pos) (dC .non) := pd_c pe_non fun _ => .non
theorem pd_str {x j pos} (h : strOk x = true := by rfl) : PD X W (.Constant (.str x) j pos) (dC (.str x)) := pd_c pe_str fun _ => .str x h
theorem pd_glob {x : Str} {v : V} {d : D} {u : Value} {pos : Pos} (hg : Gl X x) (hm : X.mg x = some u) (r : RelV v u) (q : ∀ G, Rep X.K G v d) (hd : (x == ("__debug__" : Str)) = false := by decide) : PD X W (.Name x pos) (dC d) :=
  pd_c (pe_glob hg hm r hd) q
theorem up_op {r : R2} {o : D → D → Mem → QD → Prop} (l : LOp K r o) {σ : L2.St} {H : Hp} {Q : VK} (h : up K W (dOp o ta tb) σ H Q) : tOp r (up K W ta) (up K W tb) σ H Q := by
  obtain ⟨G, M, δ, Q', X', ok, sl, h, hq, hx⟩ := h
  exact ⟨G, M, δ, _, X', ok, sl, h, fun d M1 v H1 G1 h1 ok1 e1 r1 => ⟨G1, M1, δ, _, X', ok1, sl.mono e1, h1, fun d2 M2 v2 H2 G2 h2 ok2 e2 r2 =>
    l v v2 H2 G2 M2 d d2 Q Q' ok2 (r1.mono e2) r2 h2 fun d3 M3 v3 H3 G3 h3 ok3 e3 r3 => hq d3 M3 v3 H3 G3 h3 ok3 (e1.trans (e2.trans e3)) r3, hx.mono e1⟩, hx⟩
theorem pd_op {op : Operator} {r : R2} {o : D → D → Mem → QD → Prop} (ho : OpR X (binaryOp op) r) (l : LOp X.K r o) (ha : PD X W a ta) (hb : PD X W b tb) : PD X W (.BinOp a op b pos) (dOp o ta tb) :=
  PEw (pe_op ho ha hb) fun _ _ _ h => up_op l h
theorem pd_un {op : UnaryOp} {r : V → Hp → VK → Prop} {o : D → Mem → QD → Prop} (ho : UnR X (unaryOp op) r) (l : LUn X.K r o) (ha : PD X W a ta) : PD X W (.UnaryOp op a pos) (dUn o ta) :=
  PEw (pe_un ho ha) fun σ H Q ⟨G, M, δ, Q', X', ok, sl, h, hq, hx⟩ => ⟨G, M, δ, _, X', ok, sl, h, fun d M1 v H1 G1 h1 ok1 e1 r1 =>
    l v H1 G1 M1 d Q Q' ok1 r1 h1 fun d3 M3 v3 H3 G3 h3 ok3 e3 r3 => hq d3 M3 v3 H3 G3 h3 ok3 (e1.trans e3) r3, hx⟩
end

/-! ### the operators -/
def oAdd (x y : D) (M : Mem) (Q : QD) : Prop := match res M x, res M y with
  | .int i, .int j => Q (.int (i + j)) M
  | .str a, .str b => a.length + b.length ≤ sizeLine ∧ Q (.str (a ++ b)) M
  | .lst a, .lst b => a.length + b.length ≤ sizeLine ∧ Q (.lst (a ++ b)) M
  | .tup a, .tup b => a.length + b.length ≤ sizeLine ∧ Q (.tup (a ++ b)) M
  | _, _ => False
def oInt (C : Int → Int → Prop) (g : Int → Int → D) (x y : D) (M : Mem) (Q : QD) : Prop := match res M x, res M y with
  | .int i, .int j => C i j ∧ Q (g i j) M
  | _, _ => False
def oInt0 (g : Int → Int → D) (x y : D) (M : Mem) (Q : QD) : Prop := match res M x, res M y with
  | .int i, .int j => Q (g i j) M
  | _, _ => False
abbrev oSub := oInt0 fun i j => .int (i - j)
abbrev oMul := oInt CMul fun i j => .int (i * j)
abbrev oDiv := oInt CDiv fun i j => .int (i / j)
abbrev oMod := oInt (fun _ j => 0 < j) fun i j => .int (i % j)
abbrev oPow := oInt CPow fun i j => .int (i ^ j.toNat)
abbrev oLt := oInt0 fun i j => .bl (decide (i < j))
abbrev oLe := oInt0 fun i j => .bl (decide (i ≤ j))
abbrev oGt := oInt0 fun i j => .bl (decide (j < i))
abbrev oGe := oInt0 fun i j => .bl (decide (j ≤ i))
def oNeg (x : D) (M : Mem) (Q : QD) : Prop := match res M x with
  | .int i => Q (.int (-i)) M
  | _ => False

section
variable {X : Cx} {W : WX} {a b c e : Expr} {ta tb tc te : DE} {pos : Pos} {K : PySem.W.Frag}
theorem l_int0 {g : Int → Int → V} {g' : Int → Int → D} (q : ∀ G i j, Rep K G (g i j) (g' i j)) : LOp K (rI0 g) (oInt0 g') := by
  intro x y H G M dx dy Q Q' ok rx ry h hq
  unfold oInt0 at h
  split at h
  · rename_i i j e1 e2
    exact ⟨i, j, rx.intOf e1, ry.intOf e2, hq _ _ _ _ _ h ok (Same.refl _) (q _ _ _)⟩
  · exact h.elim
theorem l_int {C : Int → Int → Prop} {g : Int → Int → V} {g' : Int → Int → D} (q : ∀ G i j, Rep K G (g i j) (g' i j)) : LOp K (rI C g) (oInt C g') := by
  intro x y H G M dx dy Q Q' ok rx ry h hq
  unfold oInt at h
  split at h
  · rename_i i j e1 e2
    exact ⟨i, j, rx.intOf e1, ry.intOf e2, h.1, hq _ _ _ _ _ h.2 ok (Same.refl _) (q _ _ _)⟩
  · exact h.elim
def rAddA (K : PySem.W.Frag) : R2 := fun x y H Q => ((rI0 fun i j => .int (i + j)) x y H Q ∨ (∃ i j, x = .str i ∧ y = .str j ∧ i.length + j.length ≤ sizeLine ∧ Q (.str (i ++ j)) H)) ∨ (rCat x y H Q ∨ rCatA K x y H Q)
theorem op_addA : OpR X (binaryOp .Add) (rAddA X.K) := OpR.or (OpR.or op_add op_add_str) (OpR.or op_cat op_catA)
theorem l_add : LOp K (rAddA K) oAdd := by
  intro x y H G M dx dy Q Q' ok rx ry h hq
  unfold oAdd at h
  split at h
  · rename_i i j e1 e2
    exact .inl (.inl ⟨i, j, rx.intOf e1, ry.intOf e2, hq _ _ _ _ _ h ok (Same.refl _) (.int _)⟩)
  · rename_i i j e1 e2
    obtain ⟨f1, k1⟩ := rx.strOf e1
    obtain ⟨f2, k2⟩ := ry.strOf e2
    exact .inl (.inr ⟨i, j, f1, f2, h.1, hq _ _ _ _ _ h.2 ok (Same.refl _) (.str _ (strOk_append k1 k2 h.1))⟩)
  · rename_i as bs e1 e2
    obtain ⟨p1, v1, f1, h1, q1, z1⟩ := rx.lstOf ok e1
    obtain ⟨p2, v2, f2, h2, q2, z2⟩ := ry.lstOf ok e2
    refine .inr (.inl ⟨p1, p2, v1, v2, f1, f2, h1, h2, by rw [q1.len, q2.len]; exact h.1, fun p hp => ?_⟩)
    have gp := ok.gnone hp
    exact hq _ _ _ _ _ h.2 (ok.frozen hp) (same_upd gp) (.lst upd_same ((q1.append q2).mono (same_upd gp)) (by rw [List.length_append]; exact h.1))
  · rename_i as bs e1 e2
    obtain ⟨p1, v1, f1, h1, q1, z1⟩ := rx.tupOf ok e1
    obtain ⟨p2, v2, f2, h2, q2, z2⟩ := ry.tupOf ok e2
    have l1 := q1.len
    have l2 := q2.len
    refine .inr (.inr ⟨p1, p2, v1, v2, f1, f2, SqT.of h1, SqT.of h2, by rw [l1, l2]; exact h.1, fun z => ?_, fun z1 z2 => ?_, fun _ _ p hp => ?_⟩)
    · subst z
      have : as = [] := List.length_eq_zero_iff.mp l1.symm
      subst this
      have e3 := res_tup e2
      subst e3
      subst f2
      exact hq _ _ _ _ _ h.2 ok (Same.refl _) (by simpa using ry)
    · subst z2
      have : bs = [] := List.length_eq_zero_iff.mp l2.symm
      subst this
      have e3 := res_tup e1
      subst e3
      subst f1
      exact hq _ _ _ _ _ h.2 ok (Same.refl _) (by simpa using rx)
    · have gp := ok.gnone hp
      exact hq _ _ _ _ _ h.2 (ok.frozen hp) (same_upd gp) (.tup upd_same ((q1.append q2).mono (same_upd gp)) (by rw [List.length_append]; exact h.1))
  · exact h.elim
theorem pd_add (ha : PD X W a ta) (hb : PD X W b tb) : PD X W (.BinOp a .Add b pos) (dOp oAdd ta tb) := pd_op op_addA l_add ha hb
theorem pd_sub (ha : PD X W a ta) (hb : PD X W b tb) : PD X W (.BinOp a .Sub b pos) (dOp oSub ta tb) := pd_op op_sub (l_int0 fun _ _ _ => .int _) ha hb
theorem pd_mul (ha : PD X W a ta) (hb : PD X W b tb) : PD X W (.BinOp a .Mult b pos) (dOp oMul ta tb) := pd_op op_mul (l_int fun _ _ _ => .int _) ha hb
theorem pd_div (ha : PD X W a ta) (hb : PD X W b tb) : PD X W (.BinOp a .FloorDiv b pos) (dOp oDiv ta tb) := pd_op op_fdiv (l_int fun _ _ _ => .int _) ha hb
theorem pd_mod (ha : PD X W a ta) (hb : PD X W b tb) : PD X W (.BinOp a .Mod b pos) (dOp oMod ta tb) := pd_op op_mod (l_int fun _ _ _ => .int _) ha hb
theorem pd_pow (ha : PD X W a ta) (hb : PD X W b tb) : PD X W (.BinOp a .Pow b pos) (dOp oPow ta tb) := pd_op op_pow (l_int fun _ _ _ => .int _) ha hb
theorem pd_neg (ha : PD X W a ta) : PD X W (.UnaryOp .USub a pos) (dUn oNeg ta) := pd_un un_neg (fun x H G M dx Q Q' ok rx h hq => by
  unfold oNeg at h
  split at h
  · rename_i i e1
    exact ⟨i, rx.intOf e1, hq _ _ _ _ _ h ok (Same.refl _) (.int _)⟩
  · exact h.elim) ha
end
end DL

/-! The data layer: comparisons and tests -/
namespace DL
open PySem L2

/-! ### == over data -/
mutual
def toPy : D → PyData
  | .non => .none
  | .bl b => .bool b
  | .int i => .int i
  | .str s => .str s
  | .lst xs => .list (toPyL xs)
  | .tup xs => .tuple (toPyL xs)
  | .dic _ => .none
  | .scr _ => .none
  | .obj _ => .none
  | .ty _ => .none
def toPyL : List D → List PyData
  | [] => []
  | x :: xs => toPy x :: toPyL xs
end
mutual
/-- none, bools, ints, texts, lists, tuples, at most n deep -/
def flatN : Nat → D → Bool
  | _, .non => true
  | _, .bl _ => true
  | _, .int _ => true
  | _, .str _ => true
  | n + 1, .lst xs => flatL n xs
  | n + 1, .tup xs => flatL n xs
  | _, _ => false
def flatL : Nat → List D → Bool
  | _, [] => true
  | n, x :: xs => flatN n x && flatL n xs
end
theorem flatL_all (n : Nat) : ∀ xs : List D, flatL n xs = xs.all (flatN n)
  | [] => rfl
  | x :: xs => by unfold flatL; rw [flatL_all n xs, List.all_cons]
section
variable {K : PySem.W.Frag} {H G : Hp}
mutual
theorem Rep.dp (e : Same G H) : ∀ {n : Nat} {v : V} {d : D}, Rep K G v d → flatN n d = true → Dp K H v (toPy d) ∧ (toPy d).canLay0 = true ∧ (toPy d).depth ≤ n
  | n, _, _, .non, _ => ⟨.non, rfl, by simp [toPy, PyData.depth]⟩
  | n, _, _, .bl b, _ => ⟨.bl b, rfl, by simp [toPy, PyData.depth]⟩
  | n, _, _, .int i, _ => ⟨.int i, rfl, by simp [toPy, PyData.depth]⟩
  | n, _, _, .str s h, _ => ⟨.str s, strOk_snd h, by simp [toPy, PyData.depth]⟩
  | 0, _, _, .lst h r z, f => by simp [flatN] at f
  | 0, _, _, .tup h r z, f => by simp [flatN] at f
  | n + 1, _, _, .lst h r z, f => by
    obtain ⟨a, b, c⟩ := RepL.dp e (n := n) r (by simpa [flatN] using f)
    exact ⟨.lst (SqL.of (e _ _ h)) a, b, by simp only [toPy, PyData.depth]; omega⟩
  | n + 1, _, _, .tup h r z, f => by
    obtain ⟨a, b, c⟩ := RepL.dp e (n := n) r (by simpa [flatN] using f)
    exact ⟨.tup (SqT.of (e _ _ h)) a, b, by simp only [toPy, PyData.depth]; omega⟩
  | n, _, _, .dic h k r, f => by cases n <;> simp [flatN] at f
  | n, _, _, .scr h, f => by cases n <;> simp [flatN] at f
  | n, _, _, .obj a, f => by cases n <;> simp [flatN] at f
  | n, _, _, .ty a, f => by cases n <;> simp [flatN] at f
theorem RepL.dp (e : Same G H) : ∀ {n : Nat} {vs : List V} {ds : List D}, RepL K G vs ds → flatL n ds = true → DpAll K H vs (toPyL ds) ∧ PyData.canLayAll0 (toPyL ds) = true ∧ PyData.depthAll (toPyL ds) ≤ n
  | n, _, _, .nil, _ => ⟨.nil, rfl, Nat.zero_le _⟩
  | n, _, _, .cons h t, f => by
    unfold flatL at f
    rw [Bool.and_eq_true] at f
    obtain ⟨a, b, c⟩ := Rep.dp e (n := n) h f.1
    obtain ⟨a2, b2, c2⟩ := RepL.dp e (n := n) t f.2
    exact ⟨.cons a a2, by simp only [toPyL, PyData.canLayAll0, b, b2]; rfl, by simp only [toPyL, PyData.depthAll]; omega⟩
end
end
def D.eqv (x y : D) : Bool := PyData.eqv (toPy x) (toPy y)
def D.eqvL (xs ys : List D) : Bool := PyData.eqvAll (toPyL xs) (toPyL ys)
/-- == of scalars, where the kinds are told -/
def eqS : D → D → Option Bool
  | .non, .non => some true
  | .non, .int _ => some false
  | .int _, .non => some false
  | .non, .bl _ => some false
  | .bl _, .non => some false
  | .non, .str _ => some false
  | .str _, .non => some false
  | .int _, .str _ => some false
  | .str _, .int _ => some false
  | .bl _, .str _ => some false
  | .str _, .bl _ => some false
  | .int i, .int j => some (decide (i = j))
  | .bl i, .bl j => some (decide (i = j))
  | .str i, .str j => some (decide (i = j))
  | _, _ => none
def oEqN (neg : Bool) (x y : D) (M : Mem) (Q : QD) : Prop := match eqS x y with
  | some b => Q (.bl (cond neg (!b) b)) M
  | none => flatN 9 (res M x) = true ∧ flatN 9 (res M y) = true ∧ Q (.bl (cond neg (!D.eqv (res M x) (res M y)) (D.eqv (res M x) (res M y)))) M
abbrev oEq := oEqN false
abbrev oNe := oEqN true
section
variable {K : PySem.W.Frag} {H G : Hp} {M : Mem}
theorem Rep.eqS {v w : V} {x y : D} {b : Bool} (rx : Rep K G v x) (ry : Rep K G w y) (e : eqS x y = some b) : scal v w = true ∧ decide (v = w) = b := by
  cases rx <;> cases ry <;> first | (cases e; done) | skip
  all_goals first | (cases e; exact ⟨rfl, by simp⟩) | (cases e; exact ⟨rfl, rfl⟩) | (simp [DL.eqS] at e; exact ⟨rfl, by rw [← e]; simp⟩)
theorem Rep.resDp {v : V} {d : D} (ok : Ok K H G M) (r : Rep K G v d) (f : flatN 9 (res M d) = true) : Dp K H v (toPy (res M d)) ∧ SeqAt.shaped (toPy (res M d)) = true := by
  have fin : ∀ {d' : D}, (Dp K H v (toPy d') ∧ (toPy d').canLay0 = true ∧ (toPy d').depth ≤ 9) → Dp K H v (toPy d') ∧ SeqAt.shaped (toPy d') = true := fun ⟨a, b, c⟩ =>
    ⟨a, by unfold SeqAt.shaped; rw [b, Bool.true_and]; exact decide_eq_true (by omega)⟩
  cases r with
  | obj a =>
    cases q : res M (.obj a) with
    | lst ds =>
      rw [q] at f
      obtain ⟨_, vs, h1, h2, z⟩ := ok.mem _ _ (Rep.obj_lst ok q)
      obtain ⟨a1, b1, c1⟩ := RepL.dp ok.sub (n := 8) h2 (by simpa [flatN] using f)
      exact fin ⟨.lst (SqL.of h1) a1, b1, by simp only [toPy, PyData.depth]; omega⟩
    | dic kvs => rw [q] at f; simp [flatN] at f
    | obj b => rw [q] at f; simp [flatN] at f
    | _ => rcases resO_ne q with ⟨_, z⟩ | ⟨_, z⟩ | z <;> cases z
  | non => exact fin (Rep.dp ok.sub .non f)
  | bl b => exact fin (Rep.dp ok.sub (.bl b) f)
  | int i => exact fin (Rep.dp ok.sub (.int i) f)
  | str s h => exact fin (Rep.dp ok.sub (.str s h) f)
  | lst h q z => exact fin (Rep.dp ok.sub (.lst h q z) f)
  | tup h q z => exact fin (Rep.dp ok.sub (.tup h q z) f)
  | dic h k q => exact fin (Rep.dp ok.sub (.dic h k q) f)
  | scr h => exact fin (Rep.dp ok.sub (.scr h) f)
  | ty h => exact fin (Rep.dp ok.sub (.ty h) f)
def rEqA (K : PySem.W.Frag) : R2 := fun x y H Q => rEq x y H Q ∨ rEqD K x y H Q
def rNeA (K : PySem.W.Frag) : R2 := fun x y H Q => rNe x y H Q ∨ rNeD K x y H Q
theorem l_eq : LOp K (rEqA K) oEq := by
  intro x y H G M dx dy Q Q' ok rx ry h hq
  unfold oEq oEqN at h
  split at h
  · rename_i b e
    obtain ⟨s, q⟩ := rx.eqS ry e
    exact .inl ⟨s, by rw [q]; exact hq _ _ _ _ _ h ok (Same.refl _) (.bl _)⟩
  · obtain ⟨f1, f2, h⟩ := h
    obtain ⟨a1, b1⟩ := rx.resDp ok f1
    obtain ⟨a2, b2⟩ := ry.resDp ok f2
    exact .inr ⟨_, _, a1, a2, b1, b2, hq _ _ _ _ _ h ok (Same.refl _) (.bl _)⟩
theorem l_ne : LOp K (rNeA K) oNe := by
  intro x y H G M dx dy Q Q' ok rx ry h hq
  unfold oNe oEqN at h
  split at h
  · rename_i b e
    obtain ⟨s, q⟩ := rx.eqS ry e
    exact .inl ⟨s, by rw [q]; exact hq _ _ _ _ _ h ok (Same.refl _) (.bl _)⟩
  · obtain ⟨f1, f2, h⟩ := h
    obtain ⟨a1, b1⟩ := rx.resDp ok f1
    obtain ⟨a2, b2⟩ := ry.resDp ok f2
    exact .inr ⟨_, _, a1, a2, b1, b2, hq _ _ _ _ _ h ok (Same.refl _) (.bl _)⟩
end

/-! ### in -/
def flatD : D → Bool
  | .non => true
  | .bl _ => true
  | .int _ => true
  | .str _ => true
  | _ => false
def eqF : D → D → Bool
  | .non, .non => true
  | .bl a, .bl b => a == b
  | .bl a, .int b => (if a then 1 else 0) == b
  | .int a, .bl b => a == (if b then 1 else 0)
  | .int a, .int b => a == b
  | .str a, .str b => a == b
  | _, _ => false
def inD (x : D) (xs : List D) : Bool := xs.any fun y => eqF y x
def oInN (neg : Bool) (x y : D) (M : Mem) (Q : QD) : Prop := match res M y with
  | .lst ds => flatD x = true ∧ ds.all flatD = true ∧ Q (.bl (cond neg (!inD x ds) (inD x ds))) M
  | .tup ds => flatD x = true ∧ ds.all flatD = true ∧ Q (.bl (cond neg (!inD x ds) (inD x ds))) M
  | .str z => (match x with
    | .str ⟨⟨[c]⟩⟩ => Q (.bl (cond neg (!decide (c ∈ z.cps.toList)) (decide (c ∈ z.cps.toList)))) M
    | _ => False)
  | _ => False
abbrev oIn := oInN false
abbrev oNotIn := oInN true
section
variable {K : PySem.W.Frag} {H G : Hp} {M : Mem}
theorem Rep.flat {v : V} {d : D} (r : Rep K G v d) (f : flatD d = true) : flatV v = true := by
  cases r <;> first | rfl | cases f
theorem RepL.flat : ∀ {vs : List V} {ds : List D}, RepL K G vs ds → ds.all flatD = true → vs.all flatV = true
  | _, _, .nil, _ => rfl
  | _, _, .cons h t, f => by
    rw [List.all_cons, Bool.and_eq_true] at f ⊢
    exact ⟨h.flat f.1, t.flat f.2⟩
theorem Rep.eqF {v w : V} {x y : D} (rx : Rep K G v x) (ry : Rep K G w y) : flatD x = true → flatD y = true → eqV v w = eqF x y := by
  intro f g
  cases rx <;> first | (cases f; done) | skip
  all_goals (cases ry <;> first | (cases g; done) | rfl)
theorem RepL.inD {v : V} {x : D} (rx : Rep K G v x) (fx : flatD x = true) : ∀ {vs : List V} {ds : List D}, RepL K G vs ds → ds.all flatD = true → inV v vs = inD x ds
  | _, _, .nil, _ => rfl
  | _, _, .cons h t, f => by
    rw [List.all_cons, Bool.and_eq_true] at f
    unfold inV DL.inD
    rw [List.any_cons, List.any_cons, h.eqF rx f.1 fx]
    exact congrArg _ (RepL.inD rx fx t f.2)
def rInA (K : PySem.W.Frag) : R2 := fun x y H Q => rIn K false x y H Q ∨ ∃ (c : Nat) (z : Str), x = .str ⟨#[c]⟩ ∧ y = .str z ∧ Q (.bl (decide (c ∈ z.cps.toList))) H
def rNotInA (K : PySem.W.Frag) : R2 := fun x y H Q => rIn K true x y H Q ∨ ∃ (c : Nat) (z : Str), x = .str ⟨#[c]⟩ ∧ y = .str z ∧ Q (.bl (!decide (c ∈ z.cps.toList))) H
theorem l_inG {neg : Bool} {r : R2} (hr : ∀ x y H Q, rIn K neg x y H Q → r x y H Q) (hs : ∀ x y H Q, (∃ (c : Nat) (z : Str), x = .str ⟨#[c]⟩ ∧ y = .str z ∧ Q (.bl (cond neg (!decide (c ∈ z.cps.toList)) (decide (c ∈ z.cps.toList)))) H) → r x y H Q) : LOp K r (oInN neg) := by
  intro x y H G M dx dy Q Q' ok rx ry h hq
  unfold oInN at h
  have bb : ∀ b c : Bool, (if neg = true then b else c) = cond neg b c := by cases neg <;> intros <;> rfl
  split at h
  · rename_i ds e
    obtain ⟨p, vs, f, h1, q, z⟩ := ry.lstOf ok e
    obtain ⟨fx, fs, h⟩ := h
    exact hr _ _ _ _ ⟨p, vs, f, .inl (SqL.of h1), rx.flat fx, q.flat fs, by rw [q.inD rx fx fs, bb]; exact hq _ _ _ _ _ h ok (Same.refl _) (.bl _)⟩
  · rename_i ds e
    obtain ⟨p, vs, f, h1, q, z⟩ := ry.tupOf ok e
    obtain ⟨fx, fs, h⟩ := h
    exact hr _ _ _ _ ⟨p, vs, f, .inr (SqT.of h1), rx.flat fx, q.flat fs, by rw [q.inD rx fx fs, bb]; exact hq _ _ _ _ _ h ok (Same.refl _) (.bl _)⟩
  · rename_i z e
    split at h
    · rename_i c
      cases rx
      exact hs _ _ _ _ ⟨c, z, rfl, (ry.strOf e).1, hq _ _ _ _ _ h ok (Same.refl _) (.bl _)⟩
    · exact h.elim
  · exact h.elim
end

/-! ### comparisons as values, as tests -/
def asB (d : D) (M : Mem) (Q : Bool → Mem → Prop) : Prop := match d with
  | .bl b => Q b M
  | _ => False
def dB (t : DE) : DT := fun δ M Q X => t δ M (fun d M1 => asB d M1 Q) X
def isN : D → Bool
  | .non => true
  | _ => false
def dIsN (neg : Bool) (t : DE) : DE := fun δ M Q X => t δ M (fun d M1 => Q (.bl (cond neg (!isN d) (isN d))) M1) X
def dChain (o o' : D → D → Mem → QD → Prop) (ta tb tc : DE) : DE := fun δ M Q X => ta δ M (fun x M1 => tb δ M1 (fun y M2 => o x y M2 fun z M3 => asB z M3 fun b M3 => cond b (tc δ M3 (fun w M4 => o' y w M4 Q) X) (Q (.bl false) M3)) X) X
section
variable {X : Cx} {W : WX} {a b c e : Expr} {ta tb tc te : DE} {pos : Pos} {K : PySem.W.Frag} {op op' : CmpOp} {r r' : R2} {o o' : D → D → Mem → QD → Prop}
theorem asB_of {G : Hp} {M : Mem} {d : D} {v : V} {Q : Bool → Mem → Prop} (h : asB d M Q) (r : Rep K G v d) : ∃ k, v = .bl k ∧ Q k M := by
  unfold asB at h
  split at h
  · cases r; exact ⟨_, rfl, h⟩
  · exact h.elim
theorem up_B {t : DE} {σ : L2.St} {H : Hp} {Q : Bool → Hp → Prop} (h : upT K W (dB t) σ H Q) : up K W t σ H fun x H' => ∃ k, x = .bl k ∧ Q k H' := by
  obtain ⟨G, M, δ, Q', X', ok, sl, h, hq, hx⟩ := h
  refine ⟨G, M, δ, _, X', ok, sl, h, fun d M' v H' G' h1 ok' e' r' => ?_, hx⟩
  obtain ⟨k, e1, h2⟩ := asB_of h1 r'
  exact ⟨k, e1, hq k M' H' G' h2 ok' e'⟩
theorem pd_cmp (ho : OpR X (compareOp op) r) (l : LOp X.K r o) (ha : PD X W a ta) (hb : PD X W b tb) (hm : behindInMarks op b = false := by rfl) : PD X W (.Compare a [op] [b] pos) (dOp o ta tb) :=
  PEw (pe_cmpR ho ha hb hm) fun _ _ _ h => up_op l h
theorem pdt_cmp (ho : OpR X (compareOp op) r) (l : LOp X.K r o) (ha : PD X W a ta) (hb : PD X W b tb) (hm : behindInMarks op b = false := by rfl) : PDT X W (.Compare a [op] [b] pos) (dB (dOp o ta tb)) :=
  PTw (pt_cmpR ho ha hb hm) fun _ _ _ h => up_op l (up_B h)
theorem pdt_val (h : PD X W e te) (he : ∀ whole, isTrue e X.env whole = (do let v ← whole; standAt e.pos; holding [v] (truthy v)) := by intro _; rfl) : PDT X W e (dB te) :=
  PTw (pt_val h he) fun _ _ _ h => up_B h
theorem up_isN {neg : Bool} {t : DE} {σ : L2.St} {H : Hp} {Q : VK} (h : up K W (dIsN neg t) σ H Q) : up K W t σ H fun x H1 => Q (.bl (cond neg (!decide (x = .non)) (decide (x = .non)))) H1 := by
  obtain ⟨G, M, δ, Q', X', ok, sl, h, hq, hx⟩ := h
  refine ⟨G, M, δ, _, X', ok, sl, h, fun d M' v H' G' h1 ok' e' r' => ?_, hx⟩
  have : decide (v = .non) = isN d := by cases r' <;> simp [isN]
  show Q (V.bl (cond neg (!decide (v = .non)) (decide (v = .non)))) H'
  rw [this]
  exact hq _ M' _ H' G' h1 ok' e' (.bl _)
theorem pd_isN {j pos'} (ha : PD X W a ta) : PD X W (.Compare a [.Is] [.Constant .none j pos'] pos) (dIsN false ta) := PEw (pe_cmp (pc_isN ha) rfl) fun _ _ _ h => up_isN h
theorem pd_notN {j pos'} (ha : PD X W a ta) : PD X W (.Compare a [.IsNot] [.Constant .none j pos'] pos) (dIsN true ta) := PEw (pe_cmp (pc_notN ha) rfl) fun _ _ _ h => up_isN h
theorem pdt_isN {j pos'} (ha : PD X W a ta) : PDT X W (.Compare a [.Is] [.Constant .none j pos'] pos) (dB (dIsN false ta)) := PTw (pt_cmp (pc_isN ha) rfl) fun _ _ _ h => up_isN (up_B h)
theorem pdt_notN {j pos'} (ha : PD X W a ta) : PDT X W (.Compare a [.IsNot] [.Constant .none j pos'] pos) (dB (dIsN true ta)) := PTw (pt_cmp (pc_notN ha) rfl) fun _ _ _ h => up_isN (up_B h)
theorem up_chain (l : LOp K r o) (l' : LOp K r' o') {σ : L2.St} {H : Hp} {Q : VK} (h : up K W (dChain o o' ta tb tc) σ H Q) : tChain r r' (up K W ta) (up K W tb) (up K W tc) σ H Q := by
  obtain ⟨G, M, δ, Q', X', ok, sl, h, hq, hx⟩ := h
  refine ⟨G, M, δ, _, X', ok, sl, h, fun d M1 v H1 G1 h1 ok1 e1 r1 => ⟨G1, M1, δ, _, X', ok1, sl.mono e1, h1, fun d2 M2 v2 H2 G2 h2 ok2 e2 r2 => ?_, hx.mono e1⟩, hx⟩
  refine l v v2 H2 G2 M2 d d2 _ _ ok2 (r1.mono e2) r2 h2 fun d3 M3 v3 H3 G3 h3 ok3 e3 r3 => ?_
  obtain ⟨k, ek, h4⟩ := asB_of h3 r3
  refine ⟨k, ek, ?_⟩
  cases k with
  | true =>
    rw [if_pos rfl]
    refine ⟨G3, M3, δ, _, X', ok3, (sl.mono e1).mono (e2.trans e3), h4, fun d5 M5 v5 H5 G5 h5 ok5 e5 r5 => ?_, hx.mono (e1.trans (e2.trans e3))⟩
    exact l' v2 v5 H5 G5 M5 d2 d5 Q Q' ok5 (r2.mono (e3.trans e5)) r5 h5 fun d6 M6 v6 H6 G6 h6 ok6 e6 r6 => hq d6 M6 v6 H6 G6 h6 ok6 (e1.trans (e2.trans (e3.trans (e5.trans e6)))) r6
  | false =>
    rw [if_neg Bool.false_ne_true]
    exact hq _ M3 _ H3 G3 h4 ok3 (e1.trans (e2.trans e3)) (.bl _)
theorem pd_chain (ho : OpR X (compareOp op) r) (ho' : OpR X (compareOp op') r') (l : LOp X.K r o) (l' : LOp X.K r' o') (ha : PD X W a ta) (hb : PD X W b tb) (hc : PD X W c tc)
    (hm : lastMarks [op, op'] [b, c] = false := by with_unfolding_all rfl) : PD X W (.Compare a [op, op'] [b, c] pos) (dChain o o' ta tb tc) := PEw (pe_chain ho ho' ha hb hc hm) fun _ _ _ h => up_chain l l' h
theorem pdt_chain (ho : OpR X (compareOp op) r) (ho' : OpR X (compareOp op') r') (l : LOp X.K r o) (l' : LOp X.K r' o') (ha : PD X W a ta) (hb : PD X W b tb) (hc : PD X W c tc)
    (hm : lastMarks [op, op'] [b, c] = false := by with_unfolding_all rfl) : PDT X W (.Compare a [op, op'] [b, c] pos) (dB (dChain o o' ta tb tc)) := PTw (pt_chain ho ho' ha hb hc hm) fun _ _ _ h => up_chain l l' (up_B h)
abbrev l_cmp {g : Int → Int → Bool} : LOp K (rI0 fun i j => .bl (g i j)) (oInt0 fun i j => .bl (g i j)) := l_int0 fun _ _ _ => .bl _
theorem pd_lt (ha : PD X W a ta) (hb : PD X W b tb) : PD X W (.Compare a [.Lt] [b] pos) (dOp oLt ta tb) := pd_cmp op_lt l_cmp ha hb (nomark _)
theorem pd_le (ha : PD X W a ta) (hb : PD X W b tb) : PD X W (.Compare a [.LtE] [b] pos) (dOp oLe ta tb) := pd_cmp op_le l_cmp ha hb (nomark _)
theorem pd_gt (ha : PD X W a ta) (hb : PD X W b tb) : PD X W (.Compare a [.Gt] [b] pos) (dOp oGt ta tb) := pd_cmp op_gt l_cmp ha hb (nomark _)
theorem pd_ge (ha : PD X W a ta) (hb : PD X W b tb) : PD X W (.Compare a [.GtE] [b] pos) (dOp oGe ta tb) := pd_cmp op_ge l_cmp ha hb (nomark _)
theorem pdt_lt (ha : PD X W a ta) (hb : PD X W b tb) : PDT X W (.Compare a [.Lt] [b] pos) (dB (dOp oLt ta tb)) := pdt_cmp op_lt l_cmp ha hb (nomark _)
theorem pdt_le (ha : PD X W a ta) (hb : PD X W b tb) : PDT X W (.Compare a [.LtE] [b] pos) (dB (dOp oLe ta tb)) := pdt_cmp op_le l_cmp ha hb (nomark _)
theorem pdt_gt (ha : PD X W a ta) (hb : PD X W b tb) : PDT X W (.Compare a [.Gt] [b] pos) (dB (dOp oGt ta tb)) := pdt_cmp op_gt l_cmp ha hb (nomark _)
theorem pdt_ge (ha : PD X W a ta) (hb : PD X W b tb) : PDT X W (.Compare a [.GtE] [b] pos) (dB (dOp oGe ta tb)) := pdt_cmp op_ge l_cmp ha hb (nomark _)
theorem op_eqA (hu : X.A.units + 64 < cLine) : OpR X (compareOp .Eq) (rEqA X.K) := OpR.or op_eq (op_eqD hu)
theorem op_neA (hu : X.A.units + 64 < cLine) : OpR X (compareOp .NotEq) (rNeA X.K) := OpR.or op_ne (op_neD hu)
theorem pd_eq (hu : X.A.units + 64 < cLine) (ha : PD X W a ta) (hb : PD X W b tb) : PD X W (.Compare a [.Eq] [b] pos) (dOp oEq ta tb) := pd_cmp (op_eqA hu) l_eq ha hb (nomark _)
theorem pd_ne (hu : X.A.units + 64 < cLine) (ha : PD X W a ta) (hb : PD X W b tb) : PD X W (.Compare a [.NotEq] [b] pos) (dOp oNe ta tb) := pd_cmp (op_neA hu) l_ne ha hb (nomark _)
theorem pdt_eq (hu : X.A.units + 64 < cLine) (ha : PD X W a ta) (hb : PD X W b tb) : PDT X W (.Compare a [.Eq] [b] pos) (dB (dOp oEq ta tb)) := pdt_cmp (op_eqA hu) l_eq ha hb (nomark _)
theorem pdt_ne (hu : X.A.units + 64 < cLine) (ha : PD X W a ta) (hb : PD X W b tb) : PDT X W (.Compare a [.NotEq] [b] pos) (dB (dOp oNe ta tb)) := pdt_cmp (op_neA hu) l_ne ha hb (nomark _)
theorem op_inA : OpR X (compareOp .In) (rInA X.K) := OpR.or op_in_seq op_in_sign
theorem op_notInA : OpR X (compareOp .NotIn) (rNotInA X.K) := OpR.or op_notIn_seq op_notIn_sign
theorem l_in : LOp K (rInA K) oIn := l_inG (fun _ _ _ _ h => .inl h) fun _ _ _ _ h => .inr h
theorem l_notIn : LOp K (rNotInA K) oNotIn := l_inG (fun _ _ _ _ h => .inl h) fun _ _ _ _ h => .inr h
theorem pd_in (ha : PD X W a ta) (hb : PD X W b tb) (hm : behindInMarks .In b = false := by rfl) : PD X W (.Compare a [.In] [b] pos) (dOp oIn ta tb) := pd_cmp op_inA l_in ha hb hm
theorem pd_notIn (ha : PD X W a ta) (hb : PD X W b tb) (hm : behindInMarks .NotIn b = false := by rfl) : PD X W (.Compare a [.NotIn] [b] pos) (dOp oNotIn ta tb) := pd_cmp op_notInA l_notIn ha hb hm
theorem pdt_in (ha : PD X W a ta) (hb : PD X W b tb) (hm : behindInMarks .In b = false := by rfl) : PDT X W (.Compare a [.In] [b] pos) (dB (dOp oIn ta tb)) := pdt_cmp op_inA l_in ha hb hm
theorem pdt_notIn (ha : PD X W a ta) (hb : PD X W b tb) (hm : behindInMarks .NotIn b = false := by rfl) : PDT X W (.Compare a [.NotIn] [b] pos) (dB (dOp oNotIn ta tb)) := pdt_cmp op_notInA l_notIn ha hb hm
end

/-! ### and, or, not, if -/
def dAnd (t u : DT) : DT := fun δ M Q X => t δ M (fun b M1 => cond b (u δ M1 Q X) (Q false M1)) X
def dOr (t u : DT) : DT := fun δ M Q X => t δ M (fun b M1 => cond b (Q true M1) (u δ M1 Q X)) X
def dNot (t : DT) : DT := fun δ M Q X => t δ M (fun b M1 => Q (!b) M1) X
def dAndV (t u : DE) : DE := fun δ M Q X => t δ M (fun d M1 => asB d M1 fun b M1 => cond b (u δ M1 Q X) (Q (.bl false) M1)) X
def dOrV (t u : DE) : DE := fun δ M Q X => t δ M (fun d M1 => asB d M1 fun b M1 => cond b (Q (.bl true) M1) (u δ M1 Q X)) X
def dNotV (t : DE) : DE := fun δ M Q X => t δ M (fun d M1 => asB d M1 fun b M1 => Q (.bl (!b)) M1) X
def dIf (c : DT) (t u : DE) : DE := fun δ M Q X => c δ M (fun b M1 => cond b (t δ M1 Q X) (u δ M1 Q X)) X
section
variable {X : Cx} {W : WX} {a b c e : Expr} {ta tb tc te : DE} {t u tt : DT} {pos : Pos} {K : PySem.W.Frag} {rest : List Expr}
theorem pdw_and1 (ha : PDT X W a t) : PDW X W (.BoolOp .And [a] pos) t := pw_and1 ha
theorem pdw_or1 (ha : PDT X W a t) : PDW X W (.BoolOp .Or [a] pos) t := pw_or1 ha
theorem pdw_and (ha : PDT X W a t) (hb : PDW X W (.BoolOp .And (b :: rest) pos) u) : PDW X W (.BoolOp .And (a :: b :: rest) pos) (dAnd t u) :=
  PWw (pw_and ha hb) fun σ H Q ⟨G, M, δ, Q', X', ok, sl, h, hq, hx⟩ => ⟨G, M, δ, _, X', ok, sl, h, fun d M1 H1 G1 h1 ok1 e1 => by
    cases d with
    | true => rw [if_pos rfl]; exact ⟨G1, M1, δ, _, X', ok1, sl.mono e1, h1, fun d2 M2 H2 G2 h2 ok2 e2 => hq d2 M2 H2 G2 h2 ok2 (e1.trans e2), hx.mono e1⟩
    | false => rw [if_neg Bool.false_ne_true]; exact hq _ _ _ _ h1 ok1 e1, hx⟩
theorem pdw_or (ha : PDT X W a t) (hb : PDW X W (.BoolOp .Or (b :: rest) pos) u) : PDW X W (.BoolOp .Or (a :: b :: rest) pos) (dOr t u) :=
  PWw (pw_or ha hb) fun σ H Q ⟨G, M, δ, Q', X', ok, sl, h, hq, hx⟩ => ⟨G, M, δ, _, X', ok, sl, h, fun d M1 H1 G1 h1 ok1 e1 => by
    cases d with
    | false => rw [if_neg Bool.false_ne_true]; exact ⟨G1, M1, δ, _, X', ok1, sl.mono e1, h1, fun d2 M2 H2 G2 h2 ok2 e2 => hq d2 M2 H2 G2 h2 ok2 (e1.trans e2), hx.mono e1⟩
    | true => rw [if_pos rfl]; exact hq _ _ _ _ h1 ok1 e1, hx⟩
theorem pdt_w (h : PDW X W e t) : PDT X W e t := h.pt
theorem pdt_not (ha : PDT X W a t) : PDT X W (.UnaryOp .Not a pos) (dNot t) :=
  PTw (pt_not ha) fun σ H Q ⟨G, M, δ, Q', X', ok, sl, h, hq, hx⟩ => ⟨G, M, δ, _, X', ok, sl, h, fun d M1 H1 G1 h1 ok1 e1 => hq _ _ _ _ h1 ok1 e1, hx⟩
theorem pd_one {op} (h : PD X W a ta) : PD X W (.BoolOp op [a] pos) ta := pe_one h
theorem pd_and (ha : PD X W a ta) (hb : PD X W (.BoolOp .And (b :: rest) pos) tb) : PD X W (.BoolOp .And (a :: b :: rest) pos) (dAndV ta tb) :=
  PEw (pe_and ha hb) fun σ H Q ⟨G, M, δ, Q', X', ok, sl, h, hq, hx⟩ => ⟨G, M, δ, _, X', ok, sl, h, fun d M1 v H1 G1 h1 ok1 e1 r1 => by
    obtain ⟨k, ek, h2⟩ := asB_of h1 r1
    refine ⟨k, ek, ?_⟩
    cases k with
    | true => rw [if_pos rfl]; exact ⟨G1, M1, δ, _, X', ok1, sl.mono e1, h2, fun d2 M2 v2 H2 G2 h2 ok2 e2 r2 => hq d2 M2 v2 H2 G2 h2 ok2 (e1.trans e2) r2, hx.mono e1⟩
    | false => rw [if_neg Bool.false_ne_true]; exact hq _ _ _ _ _ h2 ok1 e1 (.bl _), hx⟩
theorem pd_or (ha : PD X W a ta) (hb : PD X W (.BoolOp .Or (b :: rest) pos) tb) : PD X W (.BoolOp .Or (a :: b :: rest) pos) (dOrV ta tb) :=
  PEw (pe_or ha hb) fun σ H Q ⟨G, M, δ, Q', X', ok, sl, h, hq, hx⟩ => ⟨G, M, δ, _, X', ok, sl, h, fun d M1 v H1 G1 h1 ok1 e1 r1 => by
    obtain ⟨k, ek, h2⟩ := asB_of h1 r1
    refine ⟨k, ek, ?_⟩
    cases k with
    | false => rw [if_neg Bool.false_ne_true]; exact ⟨G1, M1, δ, _, X', ok1, sl.mono e1, h2, fun d2 M2 v2 H2 G2 h2 ok2 e2 r2 => hq d2 M2 v2 H2 G2 h2 ok2 (e1.trans e2) r2, hx.mono e1⟩
    | true => rw [if_pos rfl]; exact hq _ _ _ _ _ h2 ok1 e1 (.bl _), hx⟩
theorem pd_not (ha : PD X W a ta) : PD X W (.UnaryOp .Not a pos) (dNotV ta) :=
  PEw (pe_not ha) fun σ H Q ⟨G, M, δ, Q', X', ok, sl, h, hq, hx⟩ => ⟨G, M, δ, _, X', ok, sl, h, fun d M1 v H1 G1 h1 ok1 e1 r1 => by
    obtain ⟨k, ek, h2⟩ := asB_of h1 r1
    exact ⟨k, ek, hq _ _ _ _ _ h2 ok1 e1 (.bl _)⟩, hx⟩
theorem pd_if (hc : PDT X W c tt) (ha : PD X W a ta) (hb : PD X W b tb) : PD X W (.IfExp c a b pos) (dIf tt ta tb) :=
  PEw (pe_ifExp hc ha hb) fun σ H Q ⟨G, M, δ, Q', X', ok, sl, h, hq, hx⟩ => ⟨G, M, δ, _, X', ok, sl, h, fun d M1 H1 G1 h1 ok1 e1 => by
    cases d with
    | true => rw [if_pos rfl]; exact ⟨G1, M1, δ, _, X', ok1, sl.mono e1, h1, fun d2 M2 v2 H2 G2 h2 ok2 e2 r2 => hq d2 M2 v2 H2 G2 h2 ok2 (e1.trans e2) r2, hx.mono e1⟩
    | false => rw [if_neg Bool.false_ne_true]; exact ⟨G1, M1, δ, _, X', ok1, sl.mono e1, h1, fun d2 M2 v2 H2 G2 h2 ok2 e2 r2 => hq d2 M2 v2 H2 G2 h2 ok2 (e1.trans e2) r2, hx.mono e1⟩, hx⟩
end
end DL

/-! The data layer: displays, subscripts, slices, built-ins, comprehensions -/
namespace DL
open PySem PySem.Spec PyProof.Rows L2

/-! ### arguments, displays -/
def dNil : DA := fun _ M Q _ => Q [] M
def dCons (t : DE) (u : DA) : DA := fun δ M Q X => t δ M (fun d M1 => u δ M1 (fun ds M2 => Q (d :: ds) M2) X) X
def few : Nat → List D → Prop
  | _, [] => True
  | 0, _ :: _ => False
  | n + 1, _ :: r => few n r
theorem few_le : ∀ {n : Nat} {ds : List D}, few n ds → ds.length ≤ n
  | _, [], _ => Nat.zero_le _
  | 0, _ :: _, h => h.elim
  | n + 1, _ :: r, h => Nat.succ_le_succ (few_le (ds := r) h)
theorem few_line {n : Nat} {ds : List D} (h : few n ds) (hn : n ≤ 1000 := by decide) : ds.length ≤ sizeLine := Nat.le_trans (few_le h) (Nat.le_of_lt (small1000 hn))
def dLst (t : DA) : DE := fun δ M Q X => t δ M (fun ds M1 => few 99 ds ∧ Q (.lst ds) M1) X
def dTup (t : DA) : DE := fun δ M Q X => t δ M (fun ds M1 => few 99 ds ∧ Q (.tup ds) M1) X
/-- a list that may change -/
def dLstM (t : DA) : DE := fun δ M Q X => t δ M (fun ds M1 => few 99 ds ∧ ∀ p, M1 p = none → Q (.obj p) (M1.set p (.lst ds))) X
/-- what an expression made is not changed any more -/
def frz (d : D) (M : Mem) (Q : QD) : Prop := match res M d, d with
  | .lst ds, .obj a => Q (.lst ds) (M.del a)
  | .dic kvs, .obj a => Q (.dic kvs) (M.del a)
  | _, .obj _ => False
  | _, d => Q d M
def dFrz (t : DE) : DE := fun δ M Q X => t δ M (fun d M1 => frz d M1 Q) X
section
variable {X : Cx} {W : WX} {a b c e : Expr} {es : List Expr} {ta tb te : DE} {t : DA} {pos : Pos} {K : PySem.W.Frag}
theorem pda_nil : PDA X W [] dNil := PAw pa_nil fun σ H Q ⟨G, M, δ, Q', X', ok, sl, h, hq, hx⟩ => hq _ M _ H G h ok (Same.refl _) .nil
theorem pda_cons (ha : PD X W e te) (hr : PDA X W es t) (hs : starEach (e :: es) X.env = (false, eval e X.env) :: starEach es X.env := by rfl) : PDA X W (e :: es) (dCons te t) :=
  PAw (pa_cons ha hr hs) fun σ H Q ⟨G, M, δ, Q', X', ok, sl, h, hq, hx⟩ => ⟨G, M, δ, _, X', ok, sl, h, fun d M1 v H1 G1 h1 ok1 e1 r1 => ⟨G1, M1, δ, _, X', ok1, sl.mono e1, h1, fun ds M2 vs H2 G2 h2 ok2 e2 r2 =>
    hq _ M2 _ H2 G2 h2 ok2 (e1.trans e2) (.cons (r1.mono e2) r2), hx.mono e1⟩, hx⟩
theorem pd_tup {x1} (h : PDA X W es t) : PD X W (.Tuple es x1 pos) (dTup t) :=
  PEw (pe_tup h) fun σ H Q ⟨G, M, δ, Q', X', ok, sl, h, hq, hx⟩ => ⟨G, M, δ, _, X', ok, sl, h, fun ds M1 vs H1 G1 h1 ok1 e1 r1 =>
    ⟨by rw [r1.len]; exact few_line h1.1, fun p hp => have gp := ok1.gnone hp; hq _ _ _ _ _ h1.2 (ok1.frozen hp) (e1.trans (same_upd gp)) (.tup upd_same (r1.mono (same_upd gp)) (few_line h1.1))⟩, hx⟩
theorem pd_lst (h : PDA X W es t) : PD X W (.List es pos) (dLst t) :=
  PEw (pe_lst h) fun σ H Q ⟨G, M, δ, Q', X', ok, sl, h, hq, hx⟩ => ⟨G, M, δ, _, X', ok, sl, h, fun ds M1 vs H1 G1 h1 ok1 e1 r1 =>
    ⟨by rw [r1.len]; exact few_line h1.1, fun p hp => have gp := ok1.gnone hp; hq _ _ _ _ _ h1.2 (ok1.frozen hp) (e1.trans (same_upd gp)) (.lst upd_same (r1.mono (same_upd gp)) (few_line h1.1))⟩, hx⟩
theorem pd_lstM (h : PDA X W es t) : PD X W (.List es pos) (dLstM t) :=
  PEw (pe_lst h) fun σ H Q ⟨G, M, δ, Q', X', ok, sl, h, hq, hx⟩ => ⟨G, M, δ, _, X', ok, sl, h, fun ds M1 vs H1 G1 h1 ok1 e1 r1 =>
    ⟨by rw [r1.len]; exact few_line h1.1, fun p hp => hq _ _ _ _ _ (h1.2 p (ok1.mnone hp)) (ok1.write (ok1.gnone hp) ⟨vs, upd_same, r1, few_line h1.1⟩) e1 (.obj p)⟩, hx⟩
theorem frz_of {G H : Hp} {M : Mem} {d : D} {v : V} {Q : QD} (ok : Ok K H G M) (r : Rep K G v d) (h : frz d M Q) : ∃ d' M' G', Q d' M' ∧ Ok K H G' M' ∧ Same G G' ∧ Rep K G' v d' := by
  unfold frz at h
  split at h
  · rename_i ds a e
    have m := Rep.obj_lst ok e
    obtain ⟨g, vs, h1, q, z⟩ := ok.mem _ _ m
    cases r
    exact ⟨_, _, _, h, ok.freeze m h1, same_upd g, .lst upd_same (q.mono (same_upd g)) z⟩
  · rename_i ds a e
    have m := Rep.obj_dic ok e
    obtain ⟨g, kv, h1, k, q⟩ := ok.mem _ _ m
    cases r
    exact ⟨_, _, _, h, ok.freeze m h1, same_upd g, .dic upd_same k (q.mono (same_upd g))⟩
  · exact h.elim
  · exact ⟨_, _, _, h, ok, Same.refl _, r⟩
theorem pd_frz (h : PD X W e te) : PD X W e (dFrz te) :=
  PEw h fun σ H Q ⟨G, M, δ, Q', X', ok, sl, h, hq, hx⟩ => ⟨G, M, δ, _, X', ok, sl, h, fun d M1 v H1 G1 h1 ok1 e1 r1 => by
    obtain ⟨d', M', G', h2, ok2, e2, r2⟩ := frz_of ok1 r1 h1
    exact hq _ _ _ _ _ h2 ok2 (e1.trans e2) r2, hx⟩
end

/-! ### a dict written -/
def dPairs : List (Str × DE) → DS → Mem → (List (Str × D) → Mem → Prop) → XD → Prop
  | [], _, M, Q, _ => Q [] M
  | (k, t) :: r, δ, M, Q, X => t δ M (fun d M1 => dPairs r δ M1 (fun ps M2 => Q ((k, d) :: ps) M2) X) X
/-- a dict that may change -/
def dDisp (ts : List (Str × DE)) : DE := fun δ M Q X => ∀ p, M p = none → dPairs ts δ (M.set p (.dic [])) (fun kvs M1 => M1 p = some (.dic []) ∧ few 15 (kvs.map (·.2)) ∧ (kvs.map (·.1)).Nodup ∧ Q (.obj p) (M1.set p (.dic kvs))) X
def dDic0 : DE := fun _ M Q _ => Q (.dic []) M
structure PDPs (X : Cx) (W : WX) (pos : Pos) (keys : List (Option Expr)) (values : List Expr) (ts : List (Str × DE)) : Prop where
  run : PPs X pos keys values (ts.map fun p => (tC (.str p.1), up X.K W p.2))
theorem merge_nodup : ∀ {more kvs : List (Key × V)}, ((kvs ++ more).map (·.1)).Nodup → mergeK kvs more = kvs ++ more
  | [], kvs, _ => by rw [List.append_nil]; rfl
  | kv :: r, kvs, h => by
    have hn : valV kvs kv.1 = none := by
      cases e : valV kvs kv.1 with
      | none => rfl
      | some v =>
        unfold valV at e
        cases q : kvs.find? (fun x => decide (x.1 = kv.1)) with
        | none => rw [q] at e; cases e
        | some x =>
          have h1 := List.mem_of_find?_eq_some q
          have h2 := List.find?_some q
          have h2 : x.1 = kv.1 := of_decide_eq_true h2
          rw [List.map_append, List.map_cons] at h
          have := (List.nodup_append.mp h).2.2 x.1 (List.mem_map_of_mem h1) kv.1 List.mem_cons_self
          exact absurd h2 this
    unfold mergeK
    rw [List.foldl_cons, putK_new _ hn]
    have h' : (((kvs ++ [kv]) ++ r).map (·.1)).Nodup := by rw [List.append_assoc]; exact h
    have ih := merge_nodup (more := r) (kvs := kvs ++ [kv]) h'
    unfold mergeK at ih
    rw [show (kv.1, kv.2) = kv from rfl, ih, List.append_assoc]
    rfl
section
variable {X : Cx} {W : WX} {e : Expr} {te : DE} {pos : Pos} {K : PySem.W.Frag} {ks : List (Option Expr)} {vs : List Expr} {ts : List (Str × DE)}
theorem pdp_nil : PDPs X W pos [] [] [] := ⟨pps_nil⟩
theorem pdp_cons {k : Str} {j : Nat} {kp : Pos} (hv : PD X W e te) (hr : PDPs X W pos ks vs ts) : PDPs X W pos (some (.Constant (.str k) j kp) :: ks) (e :: vs) ((k, te) :: ts) := ⟨pps_cons pe_str hv hr.run⟩
theorem up_pairs : ∀ {ts : List (Str × DE)} {σ : L2.St} {H G : Hp} {M : Mem} {δ : DS} {Q : List (V × V) → Hp → Prop} {Q' : List (Str × D) → Mem → Prop} {X' : XD}, Ok K H G M → Slots K G σ δ → dPairs ts δ M Q' X' → WOk K W G X' →
    (∀ kvs M' ps H' G', Q' kvs M' → Ok K H' G' M' → Same G G' → ps.map (·.1) = kvs.map (fun p => V.str p.1) → RepL K G' (ps.map (·.2)) (kvs.map (·.2)) → Q ps H') → tPairs (ts.map fun p => (tC (.str p.1), up K W p.2)) σ H Q
  | [], σ, H, G, M, δ, Q, Q', X', ok, sl, h, hx, hq => hq [] M [] H G h ok (Same.refl _) rfl .nil
  | (k, t) :: r, σ, H, G, M, δ, Q, Q', X', ok, sl, h, hx, hq =>
    ⟨G, M, δ, _, X', ok, sl, h, fun d M1 v H1 G1 h1 ok1 e1 r1 => up_pairs (ts := r) ok1 (sl.mono e1) h1 (hx.mono e1) fun kvs M2 ps H2 G2 h2 ok2 e2 k2 r2 => hq _ M2 _ H2 G2 h2 ok2 (e1.trans e2) (by rw [List.map_cons, List.map_cons, k2]) (.cons (r1.mono e2) r2), hx⟩
theorem key_pairs : ∀ {ps : List (V × V)} {kvs : List (Str × D)}, ps.map (·.1) = kvs.map (fun p => V.str p.1) → ∃ kk : List (Key × V), ps = kk.map (fun kv => (kV kv.1, kv.2)) ∧ kk.map (·.1) = kvs.map (fun p => (Sum.inr p.1 : Key)) ∧ kk.map (·.2) = ps.map (·.2)
  | [], [], _ => ⟨[], rfl, rfl, rfl⟩
  | [], _ :: _, h => by cases h
  | _ :: _, [], h => by cases h
  | (a, b) :: r, (k, d) :: s, h => by
    simp only [List.map_cons, List.cons.injEq] at h
    obtain ⟨h1, h2⟩ := h
    subst h1
    obtain ⟨kk, e1, e2, e3⟩ := key_pairs h2
    exact ⟨(Sum.inr k, b) :: kk, by rw [List.map_cons, e1]; rfl, by rw [List.map_cons, e2]; rfl, by rw [List.map_cons, e3]; rfl⟩
theorem pd_disp (h : PDPs X W pos ks vs ts) (hall : ks.all (·.isSome) = true := by rfl) (hl : ks.length = vs.length := by rfl) (h0 : ks ≠ [] := by exact fun z => nomatch z) (h15 : ks.length ≤ 15 := by decide) : PD X W (.Dict ks vs pos) (dDisp ts) :=
  PEw (pe_disp h.run hall hl h0 h15) fun σ H Q ⟨G, M, δ, Q', X', ok, sl, h, hq, hx⟩ p hp => by
    have gp := ok.gnone hp
    refine up_pairs (ok.write (o := .dK []) (m := .dic []) gp ⟨[], upd_same, rfl, .nil⟩) sl (h p (ok.mnone hp)) hx fun kvs M' ps H' G' h1 ok1 e1 k1 r1 => ?_
    obtain ⟨m, f, nd, h1⟩ := h1
    obtain ⟨g1, kv0, e2, e3, _⟩ := ok1.mem _ _ m
    have z : kv0 = [] := by cases kv0 with
      | nil => rfl
      | cons _ _ => cases e3
    subst z
    obtain ⟨kk, f1, f2, f3⟩ := key_pairs k1
    have nd' : ((([] : List (Key × V)) ++ kk).map (fun kv : Key × V => kv.1)).Nodup := by
      rw [List.nil_append, f2]
      rw [show kvs.map (fun p : Str × D => (Sum.inr p.1 : Key)) = (kvs.map (fun p : Str × D => p.1)).map (fun x : Str => (Sum.inr x : Key)) by rw [List.map_map]; rfl]
      exact List.Pairwise.map _ (fun (a b : Str) (hab : a ≠ b) (e : (Sum.inr a : Key) = Sum.inr b) => hab (Sum.inr.inj e)) nd
    have me := merge_nodup (kvs := []) nd'
    show H' p = some (.dK []) ∧ ∃ kvs : List (Key × V), ps = kvs.map (fun kv => (kV kv.1, kv.2)) ∧ kvs.length ≤ 15 ∧ Q (.ref p) (upd H' p (.dK (mergeK [] kvs)))
    refine ⟨e2, kk, f1, ?_, ?_⟩
    · have := few_le f
      rw [List.length_map] at this
      have l2 := congrArg List.length f2
      rw [List.length_map, List.length_map] at l2
      omega
    · rw [me, List.nil_append]
      exact hq _ _ _ _ _ h1 (ok1.write (m := .dic kvs) g1 ⟨kk, upd_same, f2, by rw [f3]; exact r1⟩) e1 (.obj p)
theorem pd_dic0 : PD X W (.Dict [] [] pos) dDic0 :=
  PEw pe_dnewK fun σ H Q ⟨G, M, δ, Q', X', ok, sl, h, hq, hx⟩ p hp => hq _ _ _ _ _ h (ok.frozen hp) (same_upd (ok.gnone hp)) (.dic upd_same rfl .nil)
end

/-! ### subscripts -/
def nth {α : Type} : List α → Int → Option α
  | xs, .ofNat n => xs[n]?
  | xs, .negSucc n => if n + 1 ≤ xs.length then xs[xs.length - (n + 1)]? else none
theorem nth_at {α : Type} {xs : List α} {i : Int} {v : α} (h : nth xs i = some v) : atI xs i = some v := by
  match i, h with
  | .ofNat n, h => exact atI_nat h
  | .negSucc n, h =>
    have h : (if n + 1 ≤ xs.length then xs[xs.length - (n + 1)]? else none) = some v := h
    by_cases hl : n + 1 ≤ xs.length
    · rw [if_pos hl] at h
      have e : (Int.negSucc n) + (xs.length : Int) = ((xs.length - (n + 1) : Nat) : Int) := by omega
      unfold atI ixN
      rw [if_neg (by omega), if_pos (by omega), e]
      exact h
    · rw [if_neg hl] at h; cases h
theorem nth_map {α β : Type} {g : α → β} {xs : List α} {i : Int} {v : α} (h : nth xs i = some v) : nth (xs.map g) i = some (g v) := by
  match i, h with
  | .ofNat n, h =>
    show (xs.map g)[n]? = _
    rw [List.getElem?_map, show xs[n]? = some v from h]; rfl
  | .negSucc n, h =>
    have h : (if n + 1 ≤ xs.length then xs[xs.length - (n + 1)]? else none) = some v := h
    show (if n + 1 ≤ (xs.map g).length then (xs.map g)[(xs.map g).length - (n + 1)]? else none) = _
    rw [List.length_map]
    by_cases hl : n + 1 ≤ xs.length
    · rw [if_pos hl] at h ⊢
      rw [List.getElem?_map, h]; rfl
    · rw [if_neg hl] at h; cases h
theorem RepL.nth {K : PySem.W.Frag} {G : Hp} {vs : List V} {ds : List D} {i : Int} {d : D} (q : RepL K G vs ds) (h : DL.nth ds i = some d) : ∃ v, DL.nth vs i = some v ∧ Rep K G v d := by
  match i, h with
  | .ofNat n, h => exact q.at h
  | .negSucc n, h =>
    have h : (if n + 1 ≤ ds.length then ds[ds.length - (n + 1)]? else none) = some d := h
    have hl := q.len
    show ∃ v, (if n + 1 ≤ vs.length then vs[vs.length - (n + 1)]? else none) = some v ∧ _
    rw [hl]
    by_cases hn : n + 1 ≤ ds.length
    · rw [if_pos hn] at h ⊢
      exact q.at h
    · rw [if_neg hn] at h; cases h
theorem nth_nat {α : Type} (xs : List α) (n : Nat) : nth xs (n : Int) = xs[n]? := rfl
theorem nth_toNat {α : Type} (xs : List α) {i : Int} (h : 0 ≤ i) : nth xs i = xs[i.toNat]? := by
  obtain ⟨n, rfl⟩ := Int.eq_ofNat_of_zero_le h
  rfl
def look : List (Str × D) → Str → Option D
  | [], _ => none
  | (k, d) :: r, x => if k = x then some d else look r x
theorem look_val {K : PySem.W.Frag} {G : Hp} {x : Str} {d : D} : ∀ {ds : List (Str × D)} {kv : List (Key × V)}, kv.map (·.1) = ds.map (fun p => (Sum.inr p.1 : Key)) → RepL K G (kv.map (·.2)) (ds.map (·.2)) → look ds x = some d → ∃ v, valV kv (Sum.inr x) = some v ∧ Rep K G v d
  | [], _, _, _, h => by cases h
  | (k, d') :: r, [], h, _, _ => by cases h
  | (k, d') :: r, (k', v') :: r', h1, h2, h3 => by
    simp only [List.map_cons, List.cons.injEq] at h1
    cases h2 with
    | cons q t =>
      unfold look at h3
      by_cases e : k = x
      · rw [if_pos e] at h3; cases h3
        exact ⟨v', valV_pos (by rw [h1.1, e]), q⟩
      · rw [if_neg e] at h3
        obtain ⟨v, e1, e2⟩ := look_val h1.2 t h3
        exact ⟨v, by rw [valV_neg (by rw [h1.1]; exact fun z => e (Sum.inr.inj z))]; exact e1, e2⟩
def oIx (x y : D) (M : Mem) (Q : QD) : Prop := match res M x, y with
  | .lst ds, .int i => el (nth ds i) fun d => Q d M
  | .tup ds, .int i => el (nth ds i) fun d => Q d M
  | .scr ns, .int i => el (nth ns i) fun n => Q (.int n) M
  | .str z, .int i => el (nth z.cps.toList i) fun c => Q (.str ⟨#[c]⟩) M
  | .dic kvs, .str k => el (look kvs k) fun d => Q d M
  | _, _ => False
section
variable {X : Cx} {W : WX} {a b e : Expr} {ta tb te : DE} {pos : Pos} {K : PySem.W.Frag}
theorem strOk_iff {z : Str} : strOk z = true ↔ (∀ c ∈ z.cps.toList, c < 0x110000) ∧ z.length ≤ sizeLine := by
  have e : PyData.strOk z = true ↔ ∀ c ∈ z.cps.toList, c < 0x110000 := by
    unfold PyData.strOk
    rw [← Array.all_toList, List.all_eq_true]
    exact ⟨fun h c hc => of_decide_eq_true (h c hc), fun h c hc => decide_eq_true (h c hc)⟩
  exact ⟨fun h => ⟨e.mp (strOk_snd h), strOk_len h⟩, fun h => strOk_mk (e.mpr h.1) h.2⟩
theorem strOk_one {z : Str} {c : Nat} (h : strOk z = true) (m : c ∈ z.cps.toList) : strOk ⟨#[c]⟩ = true := by
  refine strOk_iff.mpr ⟨fun c' hc => ?_, ?_⟩
  · have : c' = c := by simpa using hc
    subst this
    exact (strOk_iff.mp h).1 c' m
  · show 1 ≤ sizeLine
    rw [sizeLine_eq]; decide
def rIxD : R2 := fun x y H Q => ∃ a v, x = .ref a ∧ DGet H a y (some v) ∧ Q v H
theorem ix_dict (hu : X.A.units + 1 < cLine) : IxR X rIxD := by
  intro value slice pins s σ H x y v u Q I rx ry h hs
  obtain ⟨a, z, rfl, g, q⟩ := h
  cases rx
  exact tail_any (dict_typeIs I g) PySem.F.slot_dict_getitem.lookup (d_getItem hu I g ry fun w' s3 I3 rw' => ⟨z, H, I3, rw', q⟩) hs
def rIxA (K : PySem.W.Frag) : R2 := fun x y H Q => rIx K x y H Q ∨ rIxD x y H Q
theorem l_ix : LOp K (rIxA K) oIx := by
  intro x y H G M dx dy Q Q' ok rx ry h hq
  unfold oIx at h
  split at h
  · rename_i ds i e
    obtain ⟨d, e1, h⟩ := el_of h
    obtain ⟨a, vs, f, h1, q, z⟩ := rx.lstOf ok e
    cases ry
    obtain ⟨v, e2, r⟩ := q.nth e1
    exact .inl (.inl ⟨a, vs, i, v, f, rfl, SqL.of h1, nth_at e2, hq _ _ _ _ _ h ok (Same.refl _) r⟩)
  · rename_i ds i e
    obtain ⟨d, e1, h⟩ := el_of h
    obtain ⟨a, vs, f, h1, q, z⟩ := rx.tupOf ok e
    cases ry
    obtain ⟨v, e2, r⟩ := q.nth e1
    exact .inl (.inr (.inl ⟨a, vs, i, v, f, rfl, SqT.of h1, nth_at e2, hq _ _ _ _ _ h ok (Same.refl _) r⟩))
  · rename_i ns i e
    obtain ⟨n, e1, h⟩ := el_of h
    obtain ⟨a, f, h1⟩ := rx.scrOf ok e
    cases ry
    exact .inl (.inl ⟨a, _, i, .int n, f, rfl, h1, nth_at (nth_map e1), hq _ _ _ _ _ h ok (Same.refl _) (.int _)⟩)
  · rename_i z i e
    obtain ⟨c, e1, h⟩ := el_of h
    obtain ⟨f, k⟩ := rx.strOf e
    have hz := strOk_len k
    cases ry
    obtain ⟨j, f1, f2, _⟩ := atI_get (nth_at e1)
    exact .inl (.inr (.inr ⟨z, i, c, f, rfl, hz, nth_at e1, hq _ _ _ _ _ h ok (Same.refl _) (.str _ (strOk_one k (List.mem_of_getElem? f2)))⟩))
  · rename_i kvs k e
    obtain ⟨d, e1, h⟩ := el_of h
    obtain ⟨a, kv, f, h1, k1, q⟩ := rx.dicOf ok e
    cases ry
    obtain ⟨v, e2, r⟩ := look_val k1 q e1
    exact .inr ⟨a, v, f, .inl ⟨kv, .inr k, .inl h1, rfl, e2.symm⟩, hq _ _ _ _ _ h ok (Same.refl _) r⟩
  · exact h.elim
theorem pd_ix (hu : X.A.units + 1 < cLine) (ha : PD X W a ta) (hb : PD X W b tb) (hs : PlainIx b := by exact fun _ _ => rfl) : PD X W (.Subscript a b pos) (dOp oIx ta tb) :=
  PEw (pe_ix (IxR.or ix_seq (ix_dict hu)) ha hb hs) fun _ _ _ h => up_op l_ix h
end

/-! ### slices -/
def dNoPart : DO := fun _ M Q _ => Q none M
def dPart (t : DE) : DO := fun δ M Q X => t δ M (fun d M1 => match d with | .int i => Q (some i) M1 | _ => False) X
def dcut {α : Type} (xs : List α) (lo hi : Option Int) : List α := (xs.drop (HT.sIx xs.length 0 lo)).take (HT.sIx xs.length xs.length hi - HT.sIx xs.length 0 lo)
def oSl (x : D) (lo hi : Option Int) (M : Mem) (Q : QD) : Prop := match res M x with
  | .lst ds => Q (.lst (dcut ds lo hi)) M
  | .tup ds => Q (.tup (dcut ds lo hi)) M
  | .str z => Q (.str (cutS z lo hi)) M
  | _ => False
def dSl (t : DE) (tl th : DO) : DE := fun δ M Q X => t δ M (fun x M1 => tl δ M1 (fun lo M2 => th δ M2 (fun hi M3 => oSl x lo hi M3 Q) X) X) X
section
variable {X : Cx} {W : WX} {e : Expr} {te : DE} {tl th : DO} {pos p2 : Pos} {K : PySem.W.Frag} {lo hi : Option Expr}
theorem pdo_none : PDO X W none dNoPart := ⟨fun pins s σ H Q I ⟨G, M, δ, Q', X', ok, sl, h, hq, hx⟩ => (po_none (X := X)).run pins s σ H Q I (hq none M H G h ok (Same.refl _))⟩
theorem pdo_some (h : PD X W e te) : PDO X W (some e) (dPart te) := ⟨fun pins s σ H Q I ⟨G, M, δ, Q', X', ok, sl, h', hq, hx⟩ => (po_some h).run pins s σ H Q I ⟨G, M, δ, _, X', ok, sl, h', fun d M1 v H1 G1 h1 ok1 e1 r1 => by
    cases r1 with
    | int i => exact ⟨_, rfl, hq _ _ _ _ h1 ok1 e1⟩
    | _ => exact h1.elim, hx⟩⟩
theorem strOk_cut {z : Str} {lo hi : Option Int} (h : strOk z = true) : strOk (cutS z lo hi) = true := by
  rw [strOk_iff] at h ⊢
  refine ⟨fun c hc => h.1 c (List.mem_of_mem_drop (List.mem_of_mem_take (by simpa [cutS] using hc))), Nat.le_trans (cutS_length z lo hi) h.2⟩
theorem RepL.cut {G : Hp} {vs : List V} {ds : List D} (r : RepL K G vs ds) (lo hi : Option Int) : RepL K G (cutV vs lo hi) (dcut ds lo hi) := by
  unfold cutV dcut
  rw [r.len]
  exact (r.drop _).take _
theorem dcut_len {α : Type} (xs : List α) (lo hi : Option Int) : (dcut xs lo hi).length ≤ xs.length := by
  unfold dcut
  rw [List.length_take, List.length_drop]
  omega
def rSlAll (K : PySem.W.Frag) : V → Option Int → Option Int → Hp → VK → Prop := fun x lo hi H Q => rSlL K x lo hi H Q ∨ (rSlA K x lo hi H Q ∨ rSlS x lo hi H Q)
theorem sl_all : SlR X (rSlAll X.K) := SlR.or sl_list (SlR.or sl_tupA sl_str)
theorem pd_slice (he : PD X W e te) (hl : PDO X W lo tl) (hh : PDO X W hi th) : PD X W (.Subscript e (.Slice lo hi none p2) pos) (dSl te tl th) :=
  PEw (pe_slice sl_all he hl hh) fun σ H Q ⟨G, M, δ, Q', X', ok, sl, h, hq, hx⟩ => ⟨G, M, δ, _, X', ok, sl, h, fun d M1 v H1 G1 h1 ok1 e1 r1 =>
    ⟨G1, M1, δ, _, X', ok1, sl.mono e1, h1, fun lo M2 H2 G2 h2 ok2 e2 => ⟨G2, M2, δ, _, X', ok2, (sl.mono e1).mono e2, h2, fun hi M3 H3 G3 h3 ok3 e3 => by
      have r3 := (r1.mono e2).mono e3
      unfold oSl at h3
      have ex := e1.trans (e2.trans e3)
      split at h3
      · rename_i ds e
        obtain ⟨a, vs, f, hH, q, z⟩ := r3.lstOf ok3 e
        refine .inl ⟨a, vs, f, SqL.of hH, fun p hp => ?_⟩
        have gp := ok3.gnone hp
        exact hq _ _ _ _ _ h3 (ok3.frozen hp) (ex.trans (same_upd gp)) (.lst upd_same ((q.cut lo hi).mono (same_upd gp)) (Nat.le_trans (dcut_len _ _ _) z))
      · rename_i ds e
        obtain ⟨a, vs, f, hH, q, z⟩ := r3.tupOf ok3 e
        refine .inr (.inl ⟨a, vs, f, SqT.of hH, fun hw => ?_, fun hw p hp => ?_⟩)
        · have ed := res_tup e
          subst ed
          subst f
          have hl := q.len
          rw [hl] at hw
          have : dcut ds lo hi = ds := by
            unfold dcut
            rw [hw.1, hw.2, List.drop_zero, Nat.sub_zero, List.take_length]
          rw [this] at h3
          exact hq _ _ _ _ _ h3 ok3 ex r3
        · have gp := ok3.gnone hp
          exact hq _ _ _ _ _ h3 (ok3.frozen hp) (ex.trans (same_upd gp)) (.tup upd_same ((q.cut lo hi).mono (same_upd gp)) (Nat.le_trans (dcut_len _ _ _) z))
      · rename_i z e
        obtain ⟨f, k⟩ := r3.strOf e
        exact .inr (.inr ⟨z, f, strOk_len k, hq _ _ _ _ _ h3 ok3 ex (.str _ (strOk_cut k))⟩)
      · exact h3.elim, hx.mono (e1.trans e2)⟩, hx.mono e1⟩, hx⟩
end
end DL

/-! The data layer: built-in calls, methods, what is walked, comprehensions -/
namespace DL
open PySem PySem.Spec PyProof.Rows L2

def dCall (o : List D → Mem → QD → Prop) (t : DA) : DE := fun δ M Q X => t δ M (fun ds M1 => o ds M1 Q) X
def LCall (K : PySem.W.Frag) (r : List V → Hp → VK → Prop) (o : List D → Mem → QD → Prop) : Prop := ∀ (vs : List V) (H G : Hp) (M : Mem) (ds : List D) (Q : VK) (Q' : QD), Ok K H G M → RepL K G vs ds → o ds M Q' →
  (∀ d M' v H' G', Q' d M' → Ok K H' G' M' → Same G G' → Rep K G' v d → Q v H') → r vs H Q
section
variable {X : Cx} {W : WX} {x : Str} {p pos : Pos} {e : Expr} {es : List Expr} {t : DA} {id T : String} {r : List V → Hp → VK → Prop} {o : List D → Mem → QD → Prop} {K : PySem.W.Frag}
theorem up_call (l : LCall K r o) {σ : L2.St} {H : Hp} {Q : VK} (h : up K W (dCall o t) σ H Q) : tCB r (upA K W t) σ H Q := by
  obtain ⟨G, M, δ, Q', X', ok, sl, h, hq, hx⟩ := h
  exact ⟨G, M, δ, _, X', ok, sl, h, fun ds M1 vs H1 G1 h1 ok1 e1 r1 => l vs H1 G1 M1 ds Q Q' ok1 r1 h1 fun d3 M3 v3 H3 G3 h3 ok3 e3 r3 => hq d3 M3 v3 H3 G3 h3 ok3 (e1.trans e3) r3, hx⟩
theorem pd_callB (hc : CallR X (.builtin id) r) (l : LCall X.K r o) (hg : Gl X x) (hm : X.mg x = none) (hv : bootBuiltins x = some (.builtin id)) (ha : PDA X W (e :: es) t) (hn : x ≠ "__name__" := by decide) (hdb : (x == ("__debug__" : Str)) = false := by decide)
    (he : starEach (e :: es) X.env = (false, eval e X.env) :: starEach es X.env := by rfl) (hpl : (backTo pos (starEach es X.env)).any (·.1) = false := by rfl) : PD X W (.Call (.Name x p) (e :: es) [] pos) (dCall o t) :=
  PEw (pe_callB hc hg hm hv ha hn hdb he hpl) fun _ _ _ h => up_call l h
theorem pd_callTy (hc : CallR X (.type T) r) (l : LCall X.K r o) (hg : Gl X x) (hm : X.mg x = none) (hv : bootBuiltins x = some (.type T)) (ha : PDA X W (e :: es) t) (hn : x ≠ "__name__" := by decide) (hdb : (x == ("__debug__" : Str)) = false := by decide)
    (he : starEach (e :: es) X.env = (false, eval e X.env) :: starEach es X.env := by rfl) (hpl : (backTo pos (starEach es X.env)).any (·.1) = false := by rfl) : PD X W (.Call (.Name x p) (e :: es) [] pos) (dCall o t) :=
  PEw (pe_callTy hc hg hm hv ha hn hdb he hpl) fun _ _ _ h => up_call l h
theorem pd_bltn {n : String} {pos : Pos} (hg : Gl X x) (hm : X.mg x = none) (hv : bootBuiltins x = some (.type n)) (hn : x ≠ "__name__" := by decide) (hd : (x == ("__debug__" : Str)) = false := by decide) : PD X W (.Name x pos) (dC (.ty n)) :=
  pd_c (pe_bltn (v := .ty n) hg hm hv rfl hn hd) fun _ => .ty n
theorem pd_cls {C : Addr} {pos : Pos} (hg : Gl X x) (hm : X.mg x = some (.ref C)) (hd : (x == ("__debug__" : Str)) = false := by decide) : PD X W (.Name x pos) (dC (.obj C)) := pd_glob (v := .ref C) hg hm rfl (fun _ => .obj C) hd
end

def on1 (F : D → Mem → QD → Prop) (ds : List D) (M : Mem) (Q : QD) : Prop := match ds with
  | [d] => F (res M d) M Q
  | _ => False
def on2 (F : D → D → Mem → QD → Prop) (ds : List D) (M : Mem) (Q : QD) : Prop := match ds with
  | [d, e] => F (res M d) (res M e) M Q
  | _ => False
def lenD (d : D) (M : Mem) (Q : QD) : Prop := match d with
  | .lst ds => Q (.int ds.length) M
  | .tup ds => Q (.int ds.length) M
  | .scr ns => Q (.int ns.length) M
  | .str z => Q (.int z.length) M
  | _ => False
def intD (d : D) (M : Mem) (Q : QD) : Prop := match d with
  | .int i => Q (.int i) M
  | .bl k => Q (.int (cond k 1 0)) M
  | _ => False
def strD (d : D) (M : Mem) (Q : QD) : Prop := match d with
  | .int i => 0 ≤ i ∧ i < 1000000000 ∧ Q (.str (toString i)) M
  | _ => False
def int2 (g : Int → Int → Int) (d e : D) (M : Mem) (Q : QD) : Prop := match d, e with
  | .int i, .int j => Q (.int (g i j)) M
  | _, _ => False
def sumD (d : D) (M : Mem) (Q : QD) : Prop := ∃ ns : List Int, d = .lst (ns.map .int) ∧ Q (.int ns.sum) M
def maxD (d : D) (M : Mem) (Q : QD) : Prop := ∃ ns : List Int, d = .lst (ns.map .int) ∧ 0 < ns.length ∧ ∀ m, m ∈ ns → (∀ y, y ∈ ns → y ≤ m) → Q (.int m) M
/-- list(x), a list that may change -/
def listM (d : D) (M : Mem) (Q : QD) : Prop := match d with
  | .lst ds => ∀ p, M p = none → Q (.obj p) (M.set p (.lst ds))
  | .tup ds => ∀ p, M p = none → Q (.obj p) (M.set p (.lst ds))
  | _ => False
def listF (d : D) (M : Mem) (Q : QD) : Prop := match d with
  | .lst ds => Q (.lst ds) M
  | .tup ds => Q (.lst ds) M
  | _ => False
def dictM (d : D) (M : Mem) (Q : QD) : Prop := match d with
  | .dic kvs => ∀ p, M p = none → Q (.obj p) (M.set p (.dic kvs))
  | _ => False
/-- isinstance of data -/
def isB (n : String) (d : D) : Option Bool := match d with
  | .non => kitB "NoneType" n
  | .bl _ => kitB "bool" n
  | .int _ => kitB "int" n
  | .str _ => kitB "str" n
  | .lst _ => kitB "list" n
  | .tup _ => kitB "tuple" n
  | .dic _ => kitB "dict" n
  | _ => none
def isiD (d e : D) (M : Mem) (Q : QD) : Prop := match e with
  | .ty n => el (isB n d) fun b => Q (.bl b) M
  | _ => False

section
variable {K : PySem.W.Frag} {X : Cx}
theorem l_on1 {F : D → Mem → QD → Prop} {r : V → Hp → VK → Prop} (h : ∀ (v : V) (H G : Hp) (M : Mem) (d d' : D) (Q : VK) (Q' : QD), Ok K H G M → Rep K G v d → res M d = d' → F d' M Q' →
    (∀ d M' v H' G', Q' d M' → Ok K H' G' M' → Same G G' → Rep K G' v d → Q v H') → r v H Q) : LCall K (fun vs H Q => ∃ v, vs = [v] ∧ r v H Q) (on1 F) := by
  intro vs H G M ds Q Q' ok rl ho hq
  unfold on1 at ho
  split at ho
  · cases rl with
    | cons a b =>
      cases b
      exact ⟨_, rfl, h _ _ _ _ _ _ _ _ ok a rfl ho hq⟩
  · exact ho.elim
theorem l_on2 {F : D → D → Mem → QD → Prop} {r : V → V → Hp → VK → Prop} (h : ∀ (v w : V) (H G : Hp) (M : Mem) (d d' e e' : D) (Q : VK) (Q' : QD), Ok K H G M → Rep K G v d → Rep K G w e → res M d = d' → res M e = e' → F d' e' M Q' →
    (∀ d M' v H' G', Q' d M' → Ok K H' G' M' → Same G G' → Rep K G' v d → Q v H') → r v w H Q) : LCall K (fun vs H Q => ∃ v w, vs = [v, w] ∧ r v w H Q) (on2 F) := by
  intro vs H G M ds Q Q' ok rl ho hq
  unfold on2 at ho
  split at ho
  · cases rl with
    | cons a b =>
      cases b with
      | cons b c =>
        cases c
        exact ⟨_, _, rfl, h _ _ _ _ _ _ _ _ _ _ _ ok a b rfl rfl ho hq⟩
  · exact ho.elim
theorem LCall.imp {r r' : List V → Hp → VK → Prop} {o : List D → Mem → QD → Prop} (l : LCall K r o) (h : ∀ vs H Q, r vs H Q → r' vs H Q) : LCall K r' o := fun vs H G M ds Q Q' ok rl ho hq => h _ _ _ (l vs H G M ds Q Q' ok rl ho hq)
theorem l_len : LCall K (fun xs H Q => ∃ x n, xs = [x] ∧ LenV K x H n ∧ Q (.int n) H) (on1 lenD) := by
  refine LCall.imp (l_on1 (r := fun x H Q => ∃ n, LenV K x H n ∧ Q (.int n) H) fun v H G M d d' Q Q' ok rv e h hq => ?_) fun vs H Q ⟨v, e, n, h⟩ => ⟨v, n, e, h⟩
  unfold lenD at h
  split at h
  · obtain ⟨a, vs, f, h1, q, z⟩ := rv.lstOf ok e
    subst f
    exact ⟨_, .inl ⟨_, SqL.of h1, q.len.symm⟩, hq _ _ _ _ _ h ok (Same.refl _) (.int _)⟩
  · obtain ⟨a, vs, f, h1, q, z⟩ := rv.tupOf ok e
    subst f
    exact ⟨_, .inr ⟨_, SqT.of h1, q.len.symm⟩, hq _ _ _ _ _ h ok (Same.refl _) (.int _)⟩
  · obtain ⟨a, f, h1⟩ := rv.scrOf ok e
    subst f
    exact ⟨_, .inl ⟨_, h1, by rw [List.length_map]⟩, hq _ _ _ _ _ h ok (Same.refl _) (.int _)⟩
  · obtain ⟨f, k⟩ := rv.strOf e
    subst f
    exact ⟨_, ⟨strOk_len k, rfl⟩, hq _ _ _ _ _ h ok (Same.refl _) (.int _)⟩
  · exact h.elim
theorem l_int1 : LCall K (fun xs H Q => (∃ i, xs = [.int i] ∧ Q (.int i) H) ∨ ∃ k, xs = [.bl k] ∧ Q (.int (if k then 1 else 0)) H) (on1 intD) := by
  refine LCall.imp (l_on1 (r := fun x H Q => (∃ i, x = .int i ∧ Q (.int i) H) ∨ ∃ k, x = .bl k ∧ Q (.int (if k then 1 else 0)) H) fun v H G M d d' Q Q' ok rv e h hq => ?_) fun vs H Q ⟨v, e, h⟩ => by
    subst e
    rcases h with ⟨i, e, h⟩ | ⟨i, e, h⟩
    · exact .inl ⟨i, by rw [e], h⟩
    · exact .inr ⟨i, by rw [e], h⟩
  unfold intD at h
  split at h
  · exact .inl ⟨_, rv.intOf e, hq _ _ _ _ _ h ok (Same.refl _) (.int _)⟩
  · rename_i k
    refine .inr ⟨k, rv.blOf e, ?_⟩
    have : (if k = true then (1 : Int) else 0) = cond k 1 0 := by cases k <;> rfl
    rw [this]
    exact hq _ _ _ _ _ h ok (Same.refl _) (.int _)
  · exact h.elim
theorem strOk_num {i : Int} (h0 : 0 ≤ i) (h1 : i < 1000000000) : strOk (toString i : String) = true := by
  obtain ⟨n, rfl⟩ := Int.eq_ofNat_of_zero_le h0
  have e := TL.tl_num n
  have e : (Str.ofString (toString ((n : Nat) : Int))).cps.toList = TL.numL n := e
  have hl := TL.numL_len (n := n) (k := 9) (by decide) (by omega)
  refine strOk_iff.mpr ⟨fun c hc => ?_, ?_⟩
  · rw [e] at hc
    have := TL.numL_digits n c hc
    omega
  · have : (Str.ofString (toString ((n : Nat) : Int))).length = (TL.numL n).length := by rw [← e, Array.length_toList]; rfl
    rw [this, sizeLine_eq]
    omega
theorem log_small {i : Int} (h0 : 0 ≤ i) (h1 : i < 1000000000) : i.natAbs.log2 < 1920 := by
  by_cases hz : i.natAbs = 0
  · rw [hz]; decide
  · refine (Nat.log2_lt hz).mpr (Nat.lt_of_lt_of_le (show i.natAbs < 2 ^ 30 by omega) (Nat.pow_le_pow_right (by decide) (by decide)))
theorem l_str1 : LCall K (fun xs H Q => ∃ i, xs = [.int i] ∧ i.natAbs.log2 < 1920 ∧ Q (.str (toString i)) H) (on1 strD) := by
  refine LCall.imp (l_on1 (r := fun x H Q => ∃ i : Int, x = .int i ∧ i.natAbs.log2 < 1920 ∧ Q (.str (toString i)) H) fun v H G M d d' Q Q' ok rv e h hq => ?_) fun vs H Q ⟨v, e, i, f, h⟩ => ⟨i, by rw [e, f], h⟩
  unfold strD at h
  split at h
  · obtain ⟨h0, h1, h⟩ := h
    exact ⟨_, rv.intOf e, log_small h0 h1, hq _ _ _ _ _ h ok (Same.refl _) (.str _ (strOk_num h0 h1))⟩
  · exact h.elim
theorem l_int2 {g : Int → Int → Int} : LCall K (fun xs H Q => ∃ i j, xs = [.int i, .int j] ∧ Q (.int (g i j)) H) (on2 (int2 g)) := by
  refine LCall.imp (l_on2 (r := fun x y H Q => ∃ i j, x = .int i ∧ y = .int j ∧ Q (.int (g i j)) H) fun v w H G M d d' d2 d2' Q Q' ok rv rw' e e2 h hq => ?_) fun vs H Q ⟨v, w, e, i, j, f, f2, h⟩ => ⟨i, j, by rw [e, f, f2], h⟩
  unfold int2 at h
  split at h
  · exact ⟨_, _, rv.intOf e, rw'.intOf e2, hq _ _ _ _ _ h ok (Same.refl _) (.int _)⟩
  · exact h.elim
theorem reps_ints {G : Hp} : ∀ {ns : List Int} {vs : List V}, RepL K G vs (ns.map D.int) → vs = ns.map V.int
  | [], _, .nil => rfl
  | i :: r, _, .cons (.int _) t => by rw [List.map_cons, ← reps_ints t]
theorem l_sum : LCall K (rSum K) (on1 sumD) := by
  refine LCall.imp (l_on1 (r := fun x H Q => ∃ (a : Addr) (ns : List Int), x = .ref a ∧ SqL K H a (ns.map V.int) ∧ Q (.int ns.sum) H) fun v H G M d d' Q Q' ok rv e h hq => ?_) fun vs H Q ⟨v, e, a, ns, f, h⟩ => ⟨a, ns, by rw [e, f], h⟩
  obtain ⟨ns, f, h⟩ := h
  subst f
  obtain ⟨a, vs, f, h1, q, z⟩ := rv.lstOf ok e
  have := reps_ints q
  subst this
  exact ⟨a, ns, f, SqL.of h1, hq _ _ _ _ _ h ok (Same.refl _) (.int _)⟩
theorem l_max : LCall K (rMax K) (on1 maxD) := by
  refine LCall.imp (l_on1 (r := fun x H Q => ∃ (a : Addr) (ns : List Int), x = .ref a ∧ SqL K H a (ns.map V.int) ∧ 0 < ns.length ∧ ∀ m, m ∈ ns → (∀ y, y ∈ ns → y ≤ m) → Q (.int m) H) fun v H G M d d' Q Q' ok rv e h hq => ?_) fun vs H Q ⟨v, e, a, ns, f, h⟩ => ⟨a, ns, by rw [e, f], h⟩
  obtain ⟨ns, f, hz, h⟩ := h
  subst f
  obtain ⟨a, vs, f, h1, q, z⟩ := rv.lstOf ok e
  have := reps_ints q
  subst this
  exact ⟨a, ns, f, SqL.of h1, hz, fun m h1 h2 => hq _ _ _ _ _ (h m h1 h2) ok (Same.refl _) (.int _)⟩
abbrev rListOf (K : PySem.W.Frag) : List V → Hp → VK → Prop := fun xs H Q => ∃ p ys, xs = [.ref p] ∧ (SqL K H p ys ∨ SqT K H p ys) ∧ ∀ l, H l = none → Q (.ref l) (upd H l (.lst ys))
theorem l_listM : LCall K (rListOf K) (on1 listM) := by
  refine LCall.imp (l_on1 (r := fun x H Q => ∃ p ys, x = .ref p ∧ (SqL K H p ys ∨ SqT K H p ys) ∧ ∀ l, H l = none → Q (.ref l) (upd H l (.lst ys))) fun v H G M d d' Q Q' ok rv e h hq => ?_) fun vs H Q ⟨v, e, a, ns, f, h⟩ => ⟨a, ns, by rw [e, f], h⟩
  unfold listM at h
  split at h
  · obtain ⟨a, vs, f, h1, q, z⟩ := rv.lstOf ok e
    exact ⟨a, vs, f, .inl (SqL.of h1), fun l hl => hq _ _ _ _ _ (h l (ok.mnone hl)) (ok.write (m := .lst _) (ok.gnone hl) ⟨vs, upd_same, q, z⟩) (Same.refl _) (.obj l)⟩
  · obtain ⟨a, vs, f, h1, q, z⟩ := rv.tupOf ok e
    exact ⟨a, vs, f, .inr (SqT.of h1), fun l hl => hq _ _ _ _ _ (h l (ok.mnone hl)) (ok.write (m := .lst _) (ok.gnone hl) ⟨vs, upd_same, q, z⟩) (Same.refl _) (.obj l)⟩
  · exact h.elim
theorem l_listF : LCall K (rListOf K) (on1 listF) := by
  refine LCall.imp (l_on1 (r := fun x H Q => ∃ p ys, x = .ref p ∧ (SqL K H p ys ∨ SqT K H p ys) ∧ ∀ l, H l = none → Q (.ref l) (upd H l (.lst ys))) fun v H G M d d' Q Q' ok rv e h hq => ?_) fun vs H Q ⟨v, e, a, ns, f, h⟩ => ⟨a, ns, by rw [e, f], h⟩
  unfold listF at h
  split at h
  · obtain ⟨a, vs, f, h1, q, z⟩ := rv.lstOf ok e
    exact ⟨a, vs, f, .inl (SqL.of h1), fun l hl => hq _ _ _ _ _ h (ok.frozen hl) (same_upd (ok.gnone hl)) (.lst upd_same (q.mono (same_upd (ok.gnone hl))) z)⟩
  · obtain ⟨a, vs, f, h1, q, z⟩ := rv.tupOf ok e
    exact ⟨a, vs, f, .inr (SqT.of h1), fun l hl => hq _ _ _ _ _ h (ok.frozen hl) (same_upd (ok.gnone hl)) (.lst upd_same (q.mono (same_upd (ok.gnone hl))) z)⟩
  · exact h.elim
abbrev rDictOf : List V → Hp → VK → Prop := fun xs H Q => ∃ (a : Addr) (kvs : List (Key × V)), xs = [.ref a] ∧ Rd H a (.dK kvs) ∧ ∀ p, H p = none → Q (.ref p) (upd H p (.dK kvs))
theorem l_dictM : LCall K rDictOf (on1 dictM) := by
  refine LCall.imp (l_on1 (r := fun x H Q => ∃ (a : Addr) (kvs : List (Key × V)), x = .ref a ∧ Rd H a (.dK kvs) ∧ ∀ p, H p = none → Q (.ref p) (upd H p (.dK kvs))) fun v H G M d d' Q Q' ok rv e h hq => ?_) fun vs H Q ⟨v, e, a, ns, f, h⟩ => ⟨a, ns, by rw [e, f], h⟩
  unfold dictM at h
  split at h
  · obtain ⟨a, kv, f, h1, k, q⟩ := rv.dicOf ok e
    exact ⟨a, kv, f, .inl h1, fun l hl => hq _ _ _ _ _ (h l (ok.mnone hl)) (ok.write (m := .dic _) (ok.gnone hl) ⟨kv, upd_same, k, q⟩) (Same.refl _) (.obj l)⟩
  · exact h.elim
theorem l_isi : LCall K (rIsi K) (on2 isiD) := by
  refine LCall.imp (l_on2 (r := fun x c H Q => ∃ (t u : Value) (b : Bool), ClsV c u ∧ TyX K H x t ∧ PySem.W.kitOne K t u = some b ∧ Q (.bl b) H) fun v w H G M d d' d2 d2' Q Q' ok rv rw' e e2 h hq => ?_) fun vs H Q ⟨v, w, e, t, u, b, h⟩ => ⟨v, w, t, u, b, e, h⟩
  unfold isiD at h
  split at h
  · rename_i n
    obtain ⟨b, eb, h⟩ := el_of h
    have ew : w = .ty n := by
      cases rw' with
      | ty => cases e2; rfl
      | obj a => rcases resO_ne e2 with ⟨_, z⟩ | ⟨_, z⟩ | z <;> cases z
      | _ => cases e2
    subst ew
    have fin : ∀ {ty : String}, TyX K H v (.type ty) → kitB ty n = some b → ∃ (t u : Value) (b : Bool), ClsV (.ty n) u ∧ TyX K H v t ∧ PySem.W.kitOne K t u = some b ∧ Q (.bl b) H := fun {ty} k1 k2 =>
      ⟨_, _, b, .ty n, k1, kit_ty k2, hq _ _ _ _ _ h ok (Same.refl _) (.bl _)⟩
    unfold isB at eb
    split at eb
    · cases rv.nonOf e; exact fin (.base .non) eb
    · cases rv.blOf e; exact fin (.base (.bl _)) eb
    · cases rv.intOf e; exact fin (.base (.int _)) eb
    · obtain ⟨f, _⟩ := rv.strOf e; subst f; exact fin (.base (.str _)) eb
    · obtain ⟨a, vs, f, h1, q, z⟩ := rv.lstOf ok e; subst f; exact fin (.base (.lst h1)) eb
    · obtain ⟨a, vs, f, h1, q, z⟩ := rv.tupOf ok e; subst f; exact fin (.base (.tup h1)) eb
    · obtain ⟨a, kv, f, h1, k, q⟩ := rv.dicOf ok e; subst f; exact fin (.base (.dK h1)) eb
    · cases eb
  · exact h.elim
end

/-! ### methods of built-in types -/
def elL : Option MO → (List D → Prop) → Prop
  | some (.lst ds), F => F ds
  | _, _ => False
theorem elL_of {o : Option MO} {F : List D → Prop} (h : elL o F) : ∃ ds, o = some (.lst ds) ∧ F ds := by
  cases o with
  | none => exact h.elim
  | some m => cases m with
    | lst ds => exact ⟨ds, rfl, h⟩
    | dic _ => exact h.elim
    | ins _ _ => exact h.elim
def dMet0 (o : D → List D → Mem → QD → Prop) (to : DE) : DE := fun δ M Q X => to δ M (fun x M1 => o x [] M1 Q) X
/-- x.m(..), the receiver's kind looked at ahead of the arguments -/
def dMet (ty : D → Mem → Prop) (o : D → List D → Mem → QD → Prop) (to : DE) (t : DA) : DE := fun δ M Q X => to δ M (fun x M1 => ty x M1 ∧ t δ M1 (fun ds M2 => o x ds M2 Q) X) X
def LMet (K : PySem.W.Frag) (r : V → List V → Hp → VK → Prop) (o : D → List D → Mem → QD → Prop) : Prop := ∀ (v : V) (vs : List V) (H G : Hp) (M : Mem) (d : D) (ds : List D) (Q : VK) (Q' : QD), Ok K H G M → Rep K G v d → RepL K G vs ds → o d ds M Q' →
  (∀ d M' v H' G', Q' d M' → Ok K H' G' M' → Same G G' → Rep K G' v d → Q v H') → r v vs H Q
def isLst (d : D) (M : Mem) : Prop := match res M d with
  | .lst _ => True
  | _ => False
def isStr (d : D) (_ : Mem) : Prop := match d with
  | .str _ => True
  | _ => False
def oAppend (x : D) (ds : List D) (M : Mem) (Q : QD) : Prop := match x, ds with
  | .obj a, [d] => elL (M a) fun xs => xs.length < sizeLine ∧ Q .non (M.set a (.lst (xs ++ [d])))
  | _, _ => False
def oInsert (x : D) (ds : List D) (M : Mem) (Q : QD) : Prop := match x, ds with
  | .obj a, [.int i, d] => elL (M a) fun xs => xs.length < sizeLine ∧ 0 ≤ i ∧ i < 2 ^ 63 ∧ Q .non (M.set a (.lst (xs.take i.toNat ++ [d] ++ xs.drop i.toNat)))
  | _, _ => False
def oPop (x : D) (ds : List D) (M : Mem) (Q : QD) : Prop := match x, ds with
  | .obj a, [] => elL (M a) fun xs => el xs[xs.length - 1]? fun d => Q d (M.set a (.lst xs.dropLast))
  | _, _ => False
def oPopAt (x : D) (ds : List D) (M : Mem) (Q : QD) : Prop := match x, ds with
  | .obj a, [.int i] => elL (M a) fun xs => 0 ≤ i ∧ i < 2 ^ 62 ∧ el xs[i.toNat]? fun d => Q d (M.set a (.lst (xs.eraseIdx i.toNat)))
  | _, _ => False
def oIndex (x : D) (ds : List D) (M : Mem) (Q : QD) : Prop := match res M x, ds with
  | .lst xs, [d] => flatD d = true ∧ xs.all flatD = true ∧ ∃ (j : Nat) (z : D), xs[j]? = some z ∧ eqF z d = true ∧ (∀ (m : Nat) (z' : D), m < j → xs[m]? = some z' → eqF z' d = false) ∧ Q (.int (j : Nat)) M
  | _, _ => False
def oSplit (x : D) (ds : List D) (M : Mem) (Q : QD) : Prop := match x, ds with
  | .str a, [.str b] => (b.length == 0) = false ∧ a.length + 2 ≤ sizeLine ∧ (Txt.split a b).length ≤ sizeLine ∧ (∀ z ∈ Txt.split a b, strOk z = true) ∧ Q (.lst ((Txt.split a b).map .str)) M
  | _, _ => False
def oJoin (x : D) (ds : List D) (M : Mem) (Q : QD) : Prop := match x, ds with
  | .str a, [d] => ∃ ys : List Str, (res M d = .lst (ys.map .str) ∨ res M d = .tup (ys.map .str)) ∧ (ys.map (·.length)).sum + ys.length * a.length ≤ 16777216 ∧ strOk (Txt.join a ys) = true ∧ Q (.str (Txt.join a ys)) M
  | _, _ => False
section
variable {K : PySem.W.Frag} {X : Cx} {W : WX} {o e : Expr} {es : List Expr} {to te : DE} {t : DA} {name : Str} {apos cpos : Pos} {T id : String} {r : V → List V → Hp → VK → Prop} {oo : D → List D → Mem → QD → Prop}
theorem isLst_of {H G : Hp} {M : Mem} {v : V} {d : D} (ok : Ok K H G M) (rv : Rep K G v d) (h : isLst d M) : tyV K "list" v H := by
  unfold isLst at h
  split at h
  · rename_i ds e
    obtain ⟨a, vs, f, h1, q, z⟩ := rv.lstOf ok e
    subst f
    exact .inl ⟨rfl, _, SqL.of h1⟩
  · exact h.elim
theorem pd_bmL (pa : PlainAttrs "list") (slot : Slot "list" name id) (hty : typeOf (.builtin id) = pure (.type "method_descriptor")) (hm : MtR X id r) (l : LMet X.K r oo) (ho : PD X W o to) (ha : PDA X W (e :: es) t)
    (hbase : attributeBase o name X.env (eval o X.env) = eval o X.env := by rfl)
    (hfew : ((backTo cpos (starEach (e :: es) X.env)).all (fun x => !x.1) && (backToKw cpos (keywordEach [] X.env)).all (fun x => x.1.isSome)
      && decide ((e :: es).length + ([] : List Keyword).length + (if ([] : List Keyword).isEmpty then 0 else 1) < 30)) = true := by rfl)
    (hline : (apos.endLine == cpos.line) = true := by rfl) (hs : starEach (e :: es) X.env = (false, eval e X.env) :: starEach es X.env := by rfl) (hplain : (backTo cpos (starEach es X.env)).any (·.1) = false := by rfl) :
    PD X W (.Call (.Attribute o name apos) (e :: es) [] cpos) (dMet isLst oo to t) :=
  PEw (pe_bm pa slot hty hm ho ha hbase hfew hline hs hplain) fun σ H Q ⟨G, M, δ, Q', X', ok, sl, h, hq, hx⟩ => ⟨G, M, δ, _, X', ok, sl, h, fun d M1 v H1 G1 h1 ok1 e1 r1 =>
    ⟨isLst_of ok1 r1 h1.1, G1, M1, δ, _, X', ok1, sl.mono e1, h1.2, fun ds M2 vs H2 G2 h2 ok2 e2 r2 => l v vs H2 G2 M2 d ds Q Q' ok2 (r1.mono e2) r2 h2 fun d3 M3 v3 H3 G3 h3 ok3 e3 r3 => hq d3 M3 v3 H3 G3 h3 ok3 (e1.trans (e2.trans e3)) r3, hx.mono e1⟩, hx⟩
def dMet0L (oo : D → List D → Mem → QD → Prop) (to : DE) : DE := fun δ M Q X => to δ M (fun x M1 => isLst x M1 ∧ oo x [] M1 Q) X
theorem pd_bm0L (pa : PlainAttrs "list") (slot : Slot "list" name id) (hty : typeOf (.builtin id) = pure (.type "method_descriptor")) (hm : MtR X id r) (l : LMet X.K r oo) (ho : PD X W o to)
    (hbase : attributeBase o name X.env (eval o X.env) = eval o X.env := by rfl) (hline : (apos.endLine == cpos.line) = true := by rfl) : PD X W (.Call (.Attribute o name apos) [] [] cpos) (dMet0L oo to) :=
  PEw (pe_bm0 pa slot hty hm ho hbase hline) fun σ H Q ⟨G, M, δ, Q', X', ok, sl, h, hq, hx⟩ => ⟨G, M, δ, _, X', ok, sl, h, fun d M1 v H1 G1 h1 ok1 e1 r1 =>
    ⟨isLst_of ok1 r1 h1.1, l v [] H1 G1 M1 d [] Q Q' ok1 r1 .nil h1.2 fun d3 M3 v3 H3 G3 h3 ok3 e3 r3 => hq d3 M3 v3 H3 G3 h3 ok3 (e1.trans e3) r3⟩, hx⟩
theorem pd_m1 (slot : Slot "str" name id) (ty : typeOf (.builtin id) = pure (.type "method_descriptor")) (rule : MtR X id r) (l : LMet X.K r oo) (ho : PD X W o to) (he : PD X W e te)
    (hs : starEach [e] X.env = [(false, eval e X.env)] := by rfl) (hbase : attributeBase o name X.env (eval o X.env) = eval o X.env := by rfl) (hline : (apos.endLine == cpos.line) = true := by rfl) :
    PD X W (.Call (.Attribute o name apos) [e] [] cpos) (dMet isStr oo to (dCons te dNil)) :=
  PEw (pe_m1 slot ty rule ho he hs hbase hline) fun σ H Q ⟨G, M, δ, Q', X', ok, sl, h, hq, hx⟩ => ⟨G, M, δ, _, X', ok, sl, h, fun d M1 v H1 G1 h1 ok1 e1 r1 =>
    ⟨by
      have := h1.1
      unfold isStr at this
      split at this
      · cases r1; exact ⟨_, rfl⟩
      · exact this.elim, G1, M1, δ, _, X', ok1, sl.mono e1, h1.2, fun d2 M2 v2 H2 G2 h2 ok2 e2 r2 => l v [v2] H2 G2 M2 d [d2] Q Q' ok2 (r1.mono e2) (.one r2) h2 fun d3 M3 v3 H3 G3 h3 ok3 e3 r3 => hq d3 M3 v3 H3 G3 h3 ok3 (e1.trans (e2.trans e3)) r3, hx.mono e1⟩, hx⟩
theorem l_append : LMet K rAppend oAppend := by
  intro v vs H G M d ds Q Q' ok rv rl h hq
  unfold oAppend at h
  split at h
  · obtain ⟨xs, m, hz, h⟩ := elL_of h
    obtain ⟨g, ys, h1, q, z⟩ := ok.mem _ _ m
    cases rv
    cases rl with
    | cons r1 r2 =>
      cases r2
      exact ⟨_, ys, _, rfl, rfl, h1, by rw [q.len]; exact hz, hq _ _ _ _ _ h (ok.write (m := .lst _) g ⟨_, upd_same, q.append (.one r1), by rw [List.length_append]; exact hz⟩) (Same.refl _) .non⟩
  · exact h.elim
abbrev rInsert : V → List V → Hp → VK → Prop := fun x vs H Q => ∃ (l : Addr) (xs : List V) (i : Int) (y : V), x = .ref l ∧ vs = [.int i, y] ∧ H l = some (.lst xs) ∧ xs.length < sizeLine ∧ 0 ≤ i ∧ i < 2 ^ 63 ∧
    Q .non (upd H l (.lst (xs.take i.toNat ++ [y] ++ xs.drop i.toNat)))
theorem l_insert : LMet K rInsert oInsert := by
  intro v vs H G M d ds Q Q' ok rv rl h hq
  unfold oInsert at h
  split at h
  · obtain ⟨xs, m, hz, h0, h2, h⟩ := elL_of h
    obtain ⟨g, ys, h1, q, z⟩ := ok.mem _ _ m
    cases rv
    cases rl with
    | cons r1 r2 =>
      cases r2 with
      | cons r2 r3 =>
        cases r3
        cases r1
        refine ⟨_, ys, _, _, rfl, rfl, h1, by rw [q.len]; exact hz, h0, h2, hq _ _ _ _ _ h (ok.write (m := .lst _) g ⟨_, upd_same, ((q.take _).append (.one r2)).append (q.drop _), ?_⟩) (Same.refl _) .non⟩
        rw [List.length_append, List.length_append, List.length_take, List.length_drop, List.length_singleton]
        omega
  · exact h.elim
theorem RepL.dropLast {G : Hp} {vs : List V} {ds : List D} (r : RepL K G vs ds) : RepL K G vs.dropLast ds.dropLast := by
  rw [List.dropLast_eq_take, List.dropLast_eq_take, r.len]
  exact r.take _
theorem l_pop : LMet K rPop oPop := by
  intro v vs H G M d ds Q Q' ok rv rl h hq
  unfold oPop at h
  split at h
  · obtain ⟨xs, m, h⟩ := elL_of h
    obtain ⟨z0, ez, h⟩ := el_of h
    obtain ⟨g, ys, h1, q, z⟩ := ok.mem _ _ m
    cases rv
    cases rl
    obtain ⟨y, ey, ry⟩ := q.at ez
    exact ⟨_, ys, y, rfl, rfl, h1, by rw [q.len]; exact ey, hq _ _ _ _ _ h (ok.write (m := .lst _) g ⟨_, upd_same, q.dropLast, by rw [List.length_dropLast]; omega⟩) (Same.refl _) ry⟩
  · exact h.elim
theorem l_popAt : LMet K rPopAt oPopAt := by
  intro v vs H G M d ds Q Q' ok rv rl h hq
  unfold oPopAt at h
  split at h
  · rename_i a i
    obtain ⟨xs, m, h0, h2, h⟩ := elL_of h
    obtain ⟨z0, ez, h⟩ := el_of h
    obtain ⟨g, ys, h1, q, z⟩ := ok.mem _ _ m
    cases rv
    cases rl with
    | cons r1 r2 =>
      cases r2
      cases r1
      obtain ⟨y, ey, ry⟩ := q.at ez
      have e1 : atI ys i = some y := by
        have : i = ((i.toNat : Nat) : Int) := by omega
        rw [this]
        exact atI_nat ey
      obtain ⟨j, f1, f2, f3, f4, f5⟩ := atI_get e1
      have hi : (i.toNat : Int) = i := Int.toNat_of_nonneg h0
      have ej : some i.toNat = some j := by
        rw [← f1]
        unfold seqIndex?
        dsimp only
        have h5 : i < (ys.length : Int) := f5
        rw [if_neg (show ¬ i < 0 by omega)]
        simp [h0, h5]
      cases ej
      exact ⟨_, ys, i, _, y, rfl, rfl, h1, by omega, by omega, f1, f2, hq _ _ _ _ _ h (ok.write (m := .lst _) g ⟨_, upd_same, q.erase _, by
        have := len_erase xs i.toNat
        omega⟩) (Same.refl _) ry⟩
  · exact h.elim
theorem l_index : LMet K (rIndex K) oIndex := by
  intro v vs H G M d ds Q Q' ok rv rl h hq
  unfold oIndex at h
  split at h
  · rename_i xs d e
    obtain ⟨fd, fs, j, z0, e1, e2, e3, h⟩ := h
    obtain ⟨a, ys, f, h1, q, z⟩ := rv.lstOf ok e
    cases rl with
    | cons r1 r2 =>
      cases r2
      obtain ⟨y, ey, ry⟩ := q.at e1
      have fl : ∀ {m : Nat} {z' : D}, xs[m]? = some z' → flatD z' = true := fun {m z'} hm => List.all_eq_true.mp fs z' (List.mem_of_getElem? hm)
      refine ⟨a, ys, _, j, y, f, rfl, SqL.of h1, r1.flat fd, q.flat fs, ey, by rw [ry.eqF r1 (fl e1) fd]; exact e2, fun m z' hm hz' => ?_, hq _ _ _ _ _ h ok (Same.refl _) (.int _)⟩
      obtain ⟨d', ed, rd⟩ := q.get hz'
      rw [rd.eqF r1 (fl ed) fd]
      exact e3 m d' hm ed
  · exact h.elim
theorem reps_strs {G : Hp} : ∀ {ns : List Str} {vs : List V}, RepL K G vs (ns.map D.str) → vs = ns.map V.str
  | [], _, .nil => rfl
  | i :: r, _, .cons (.str _ _) t => by rw [List.map_cons, ← reps_strs t]
theorem RepL.strs {G : Hp} : ∀ {ns : List Str}, (∀ z ∈ ns, strOk z = true) → RepL K G (ns.map V.str) (ns.map D.str)
  | [], _ => .nil
  | i :: r, h => .cons (.str _ (h i List.mem_cons_self)) (RepL.strs fun z hz => h z (List.mem_cons_of_mem _ hz))
abbrev rSplit : V → List V → Hp → VK → Prop := fun x xs H Q => ∃ a b, x = .str a ∧ xs = [.str b] ∧ (b.length == 0) = false ∧ a.length + 2 ≤ sizeLine ∧ rNewStrs (Txt.split a b) H Q
theorem l_split : LMet K rSplit oSplit := by
  intro v vs H G M d ds Q Q' ok rv rl h hq
  unfold oSplit at h
  split at h
  · rename_i a b
    obtain ⟨h0, h2, hz, hs, h⟩ := h
    cases rv
    cases rl with
    | cons r1 r2 =>
      cases r2
      cases r1
      refine ⟨a, b, rfl, rfl, h0, h2, fun p hp => ?_⟩
      have gp := ok.gnone hp
      exact hq _ _ _ _ _ h (ok.frozen hp) (same_upd gp) (.lst upd_same (.strs hs) (by rw [List.length_map]; exact hz))
  · exact h.elim
abbrev rJoin (K : PySem.W.Frag) : V → List V → Hp → VK → Prop := fun x xs H Q => ∃ a p, ∃ ys : List Str, x = .str a ∧ xs = [.ref p] ∧ (SqL K H p (ys.map V.str) ∨ SqT K H p (ys.map V.str)) ∧
    (ys.map (·.length)).sum + ys.length * a.length ≤ 16777216 ∧ Q (.str (Txt.join a ys)) H
theorem l_join : LMet K (rJoin K) oJoin := by
  intro v vs H G M d ds Q Q' ok rv rl h hq
  unfold oJoin at h
  split at h
  · rename_i a d
    obtain ⟨ys, e, hz, hs, h⟩ := h
    cases rv
    cases rl with
    | cons r1 r2 =>
      cases r2
      rcases e with e | e
      · obtain ⟨p, us, f, h1, q, z⟩ := r1.lstOf ok e
        have := reps_strs q
        subst this
        exact ⟨a, p, ys, rfl, by rw [f], .inl (SqL.of h1), hz, hq _ _ _ _ _ h ok (Same.refl _) (.str _ hs)⟩
      · obtain ⟨p, us, f, h1, q, z⟩ := r1.tupOf ok e
        have := reps_strs q
        subst this
        exact ⟨a, p, ys, rfl, by rw [f], .inr (SqT.of h1), hz, hq _ _ _ _ _ h ok (Same.refl _) (.str _ hs)⟩
  · exact h.elim
end
end DL

/-! The data layer: what is walked, comprehensions -/
namespace DL
open PySem PySem.Spec PyProof.Rows L2

/-- the items, and what has to stay so while they are walked -/
abbrev DI := DS → Mem → (List D → (Mem → Prop) → Mem → Prop) → XD → Prop
def LIt (K : PySem.W.Frag) (G0 : Hp) (J : It) (items : List D) (P : Mem → Prop) : Prop := ∀ (i : Nat) (H G : Hp) (M : Mem), Ok K H G M → Same G0 G → P M →
  (items.length ≤ i → J.stop i H) ∧ (∀ d, items[i]? = some d → J.go i H ∧ ∀ x H', J.yld i H x H' → ∃ G', Ok K H' G' M ∧ Same G G' ∧ Rep K G' x d)
def upI (K : PySem.W.Frag) (W : WX) (t : DI) : TI := fun σ H R => ∃ (G : Hp) (M : Mem) (δ : DS) (R' : List D → (Mem → Prop) → Mem → Prop) (X' : XD), Ok K H G M ∧ Slots K G σ δ ∧ t δ M R' X' ∧
  (∀ items P M' J H' G', R' items P M' → Ok K H' G' M' → Same G G' → LIt K G' J items P → items.length ≤ sizeLine → R J H') ∧ WOk K W G X'
abbrev PDI (X : Cx) (W : WX) (tg iter : Expr) (t : DI) : Prop := PI X tg iter (upI X.K W t)
theorem PIw {X : Cx} {tg e : Expr} {t t' : TI} (h : PI X tg e t) (w : ∀ σ H Q, t' σ H Q → t σ H Q) : PI X tg e t' := ⟨fun pins s σ H Q I q => h.run pins s σ H Q I (w σ H Q q)⟩

/-- a list, a tuple, a text -/
def iAny (K : PySem.W.Frag) (tl : TE) : TI := fun σ H R => tl σ H fun x H1 => (∃ a, x = .ref a ∧ (∃ xs, SqL K H1 a xs) ∧ R (Itl K a) H1) ∨ (∃ a, x = .ref a ∧ (∃ xs, SqT K H1 a xs) ∧ R (Itt K a) H1) ∨ (∃ z, x = .str z ∧ R (Its z) H1)
theorem pi_any {X : Cx} {tg l : Expr} {tl : TE} (hl : PE X l tl) : PI X tg l (iAny X.K tl) := by
  refine ⟨fun pins s σ H R I h => ?_⟩
  refine thn (hl.run pins s σ H _ I h) fun v s1 ⟨x, H1, I1, r1, q1⟩ => ?_
  rcases q1 with ⟨a, e, ⟨xs, hq⟩, q⟩ | ⟨a, e, ⟨xs, hq⟩, q⟩ | ⟨z, e, q⟩
  · subst e
    cases r1
    obtain ⟨its, rv, p, hz⟩ := I1.list hq
    refine wpAny_pyIter_list p.isList ?_
    refine ⟨s1.heap.objs.size, [s1.heap.objs.size], _, _, H1, rfl, I1.kept (t' := s1.toks) fun b o e => Heap.get?_push_of_some _ e, turn_list a _, ⟨_, Heap.get?_push_size _ rfl, rfl, rfl⟩, fun b hb => ?_, q⟩
    have e : b = s1.heap.objs.size := by simpa using hb
    subst e
    exact I1.fpOk (Nat.le_refl _) (I1.hok.fresh (Nat.le_refl _))
  · subst e
    cases r1
    obtain ⟨its, rv, p, hz⟩ := I1.tuple hq
    refine wpAny_pyIter_tuple (show s1.heap.IsTuple a its.toArray from p) ?_
    refine ⟨s1.heap.objs.size, [s1.heap.objs.size], _, _, H1, rfl, I1.kept (t' := s1.toks) fun b o e => Heap.get?_push_of_some _ e, turn_tuple a _, ⟨_, Heap.get?_push_size _ rfl, rfl, rfl⟩, fun b hb => ?_, q⟩
    have e : b = s1.heap.objs.size := by simpa using hb
    subst e
    exact I1.fpOk (Nat.le_refl _) (I1.hok.fresh (Nat.le_refl _))
  · subst e
    obtain ⟨t, rfl⟩ := r1
    cases ha : z.cps.all (· < 128)
    · exact wpAny_pyIter_wide ha (pi_one (tk := s1.toks) I1 _ (turn_str _ z t "str_iterator" (.inr rfl)) ⟨_, Heap.get?_push_size _ rfl, rfl, rfl⟩ q)
    · exact wpAny_pyIter_ascii ha (pi_one (tk := s1.toks) I1 _ (turn_str _ z t "str_ascii_iterator" (.inl rfl)) ⟨_, Heap.get?_push_size _ rfl, rfl, rfl⟩ q)

def signsD (z : Str) : List D := z.cps.toList.map fun c => .str ⟨#[c]⟩
abbrev still : Mem → Prop := fun _ => True
def itemsOf (d : D) (M : Mem) (F : List D → (Mem → Prop) → Prop) : Prop := match d with
  | .lst ds => F ds still
  | .tup ds => F ds still
  | .str z => F (signsD z) still
  | .obj a => elL (M a) fun ds => F ds fun M' => M' a = some (.lst ds)
  | _ => False
def dItems (t : DE) : DI := fun δ M R X => t δ M (fun d M1 => itemsOf d M1 fun items P => R items P M1) X
def rangeD (lo : Int) (n : Nat) : List D := (List.range n).map fun i => .int (lo + (i : Nat))
def rng1 (ds : List D) (F : List D → (Mem → Prop) → Prop) : Prop := match ds with
  | [.int j] => -1000000 ≤ j ∧ j ≤ 1000000 ∧ F (rangeD 0 j.toNat) still
  | _ => False
def dRange1 (t : DA) : DI := fun δ M R X => t δ M (fun ds M1 => rng1 ds fun items P => R items P M1) X
def enumD : Nat → List D → List D
  | _, [] => []
  | i, d :: r => .tup [.int (i : Nat), d] :: enumD (i + 1) r
def enumOf (ds : List D) (M : Mem) (F : List D → (Mem → Prop) → Prop) : Prop := match ds with
  | [.lst xs] => F (enumD 0 xs) still
  | [.obj a] => elL (M a) fun xs => F (enumD 0 xs) fun M' => M' a = some (.lst xs)
  | _ => False
def dEnum (t : DA) : DI := fun δ M R X => t δ M (fun ds M1 => enumOf ds M1 fun items P => R items P M1) X
section
variable {X : Cx} {W : WX} {tg e : Expr} {te : DE} {t : DA} {K : PySem.W.Frag}
theorem it_list {G : Hp} {a : Addr} {vs : List V} {ds : List D} (h : G a = some (.lst vs)) (r : RepL K G vs ds) : LIt K G (Itl K a) ds still := fun i H G1 M ok s _ => by
  have hS : SqL K H a vs := SqL.of (ok.sub _ _ (s _ _ h))
  refine ⟨fun hl => ⟨vs, hS, by rw [r.len]; exact hl⟩, fun d hd => ?_⟩
  obtain ⟨v, ev, rv⟩ := r.at hd
  refine ⟨⟨vs, v, hS, ev⟩, fun x H' ⟨e1, e2⟩ => ?_⟩
  have := e2 vs hS
  rw [ev] at this
  cases this
  subst e1
  exact ⟨G1, ok, Same.refl _, rv.mono s⟩
theorem it_tup {G : Hp} {a : Addr} {vs : List V} {ds : List D} (h : G a = some (.tup vs)) (r : RepL K G vs ds) : LIt K G (Itt K a) ds still := fun i H G1 M ok s _ => by
  have hS : SqT K H a vs := SqT.of (ok.sub _ _ (s _ _ h))
  refine ⟨fun hl => ⟨vs, hS, by rw [r.len]; exact hl⟩, fun d hd => ?_⟩
  obtain ⟨v, ev, rv⟩ := r.at hd
  refine ⟨⟨vs, v, hS, ev⟩, fun x H' ⟨e1, e2⟩ => ?_⟩
  have := e2 vs hS
  rw [ev] at this
  cases this
  subst e1
  exact ⟨G1, ok, Same.refl _, rv.mono s⟩
theorem it_str {G : Hp} {z : Str} (h : strOk z = true) : LIt K G (Its z) (signsD z) still := fun i H G1 M ok s _ => by
  unfold signsD
  refine ⟨fun hl => by
    rw [List.length_map, Array.length_toList] at hl
    exact hl, fun d hd => ?_⟩
  rw [List.getElem?_map, Array.getElem?_toList] at hd
  cases ec : z.cps[i]? with
  | none => rw [ec] at hd; cases hd
  | some c =>
    rw [ec] at hd
    cases hd
    refine ⟨(Array.getElem?_eq_some_iff.mp ec).1, fun x H' ⟨e1, c', e2, e3⟩ => ?_⟩
    rw [ec] at e2; cases e2
    subst e1 e3
    exact ⟨G1, ok, Same.refl _, .str _ (strOk_one h (List.mem_of_getElem? (by rw [Array.getElem?_toList]; exact ec)))⟩
theorem it_range {G : Hp} {lo : Int} {n : Nat} : LIt K G (Itr lo n) (rangeD lo n) still := fun i H G1 M ok s _ => by
  unfold rangeD
  refine ⟨fun hl => by
    rw [List.length_map, List.length_range] at hl
    exact hl, fun d hd => ?_⟩
  rw [List.getElem?_map] at hd
  cases ec : (List.range n)[i]? with
  | none => rw [ec] at hd; cases hd
  | some c =>
    rw [ec] at hd
    cases hd
    obtain ⟨hi, ei⟩ := List.getElem?_eq_some_iff.mp ec
    rw [List.getElem_range] at ei
    subst ei
    refine ⟨(by simpa using hi : i < n), fun x H' ⟨e1, e2⟩ => ?_⟩
    subst e1 e2
    exact ⟨G1, ok, Same.refl _, .int _⟩
theorem enumD_len : ∀ (k : Nat) (ds : List D), (enumD k ds).length = ds.length
  | _, [] => rfl
  | k, d :: r => by rw [enumD, List.length_cons, List.length_cons, enumD_len]
theorem enumD_get : ∀ (k : Nat) (ds : List D) (i : Nat), (enumD k ds)[i]? = (ds[i]?).map fun d => .tup [.int ((k + i : Nat) : Int), d]
  | _, [], i => by simp [enumD]
  | k, d :: r, 0 => by simp [enumD]
  | k, d :: r, i + 1 => by
    rw [enumD, List.getElem?_cons_succ, List.getElem?_cons_succ, enumD_get (k + 1) r i]
    rw [show k + 1 + i = k + (i + 1) by omega]
theorem it_enum {G : Hp} {a : Addr} {vs : List V} {ds : List D} (h : G a = some (.lst vs)) (r : RepL K G vs ds) : LIt K G (Ite K a) (enumD 0 ds) still := fun i H G1 M ok s _ => by
  have hS : SqL K H a vs := SqL.of (ok.sub _ _ (s _ _ h))
  refine ⟨fun hl => ⟨vs, hS, by rw [r.len]; rw [enumD_len] at hl; exact hl⟩, fun d hd => ?_⟩
  rw [enumD_get] at hd
  cases ec : ds[i]? with
  | none => rw [ec] at hd; cases hd
  | some d0 =>
    rw [ec] at hd
    cases hd
    obtain ⟨v, ev, rv⟩ := r.at ec
    refine ⟨⟨vs, v, hS, ev⟩, fun x H' ⟨T, y, e1, e2, e3, e4⟩ => ?_⟩
    have := e4 vs hS
    rw [ev] at this
    cases this
    subst e1 e3
    have gp := ok.gnone e2
    refine ⟨_, ok.frozen e2, same_upd gp, .tup upd_same ?_ (by show 2 ≤ sizeLine; rw [sizeLine_eq]; decide)⟩
    rw [Nat.zero_add]
    exact .cons (.int _) (.one ((rv.mono s).mono (same_upd gp)))
theorem it_listM {G : Hp} {a : Addr} {ds : List D} : LIt K G (Itl K a) ds (fun M' => M' a = some (.lst ds)) := fun i H G1 M ok s m => by
  obtain ⟨g, vs, h, r, z⟩ := ok.mem _ _ m
  have hS : SqL K H a vs := SqL.of h
  refine ⟨fun hl => ⟨vs, hS, by rw [r.len]; exact hl⟩, fun d hd => ?_⟩
  obtain ⟨v, ev, rv⟩ := r.at hd
  refine ⟨⟨vs, v, hS, ev⟩, fun x H' ⟨e1, e2⟩ => ?_⟩
  have := e2 vs hS
  rw [ev] at this
  cases this
  subst e1
  exact ⟨G1, ok, Same.refl _, rv⟩
theorem it_enumM {G : Hp} {a : Addr} {ds : List D} : LIt K G (Ite K a) (enumD 0 ds) (fun M' => M' a = some (.lst ds)) := fun i H G1 M ok s m => by
  obtain ⟨g, vs, h, r, z⟩ := ok.mem _ _ m
  have hS : SqL K H a vs := SqL.of h
  refine ⟨fun hl => ⟨vs, hS, by rw [r.len]; rw [enumD_len] at hl; exact hl⟩, fun d hd => ?_⟩
  rw [enumD_get] at hd
  cases ec : ds[i]? with
  | none => rw [ec] at hd; cases hd
  | some d0 =>
    rw [ec] at hd
    cases hd
    obtain ⟨v, ev, rv⟩ := r.at ec
    refine ⟨⟨vs, v, hS, ev⟩, fun x H' ⟨T, y, e1, e2, e3, e4⟩ => ?_⟩
    have := e4 vs hS
    rw [ev] at this
    cases this
    subst e1 e3
    have gp := ok.gnone e2
    refine ⟨_, ok.frozen e2, same_upd gp, .tup upd_same ?_ (by show 2 ≤ sizeLine; rw [sizeLine_eq]; decide)⟩
    rw [Nat.zero_add]
    exact .cons (.int _) (.one (rv.mono (same_upd gp)))
theorem pdi_any (h : PD X W e te) : PDI X W tg e (dItems te) :=
  PIw (pi_any h) fun σ H Q ⟨G, M, δ, Q', X', ok, sl, h, hq, hx⟩ => ⟨G, M, δ, _, X', ok, sl, h, fun d M1 v H1 G1 h1 ok1 e1 r1 => by
    unfold itemsOf at h1
    split at h1
    · cases r1 with
      | lst hg r z => exact .inl ⟨_, rfl, ⟨_, SqL.of (ok1.sub _ _ hg)⟩, hq _ _ _ _ _ _ h1 ok1 e1 (it_list hg r) z⟩
    · cases r1 with
      | tup hg r z => exact .inr (.inl ⟨_, rfl, ⟨_, SqT.of (ok1.sub _ _ hg)⟩, hq _ _ _ _ _ _ h1 ok1 e1 (it_tup hg r) z⟩)
    · cases r1 with
      | str z hs => exact .inr (.inr ⟨_, rfl, hq _ _ _ _ _ _ h1 ok1 e1 (it_str hs) (by unfold signsD; rw [List.length_map, Array.length_toList]; exact strOk_len hs)⟩)
    · obtain ⟨ds, m, h2⟩ := elL_of h1
      obtain ⟨g, vs, hH, r, z⟩ := ok1.mem _ _ m
      cases r1
      exact .inl ⟨_, rfl, ⟨_, SqL.of hH⟩, hq _ _ _ _ _ _ h2 ok1 e1 it_listM z⟩
    · exact h1.elim, hx⟩
theorem line_big : (1000000 : Nat) ≤ sizeLine := by rw [sizeLine_eq]; decide
theorem range_up {K : PySem.W.Frag} {W : WX} {t : DA} : ∀ (σ : L2.St) (H : Hp) (Q : It → Hp → Prop), upI K W (dRange1 t) σ H Q → iRng1 (upA K W t) σ H Q := fun σ H Q ⟨G, M, δ, Q', X', ok, sl, h, hq, hx⟩ => ⟨G, M, δ, _, X', ok, sl, h, fun ds M1 vs H1 G1 h1 ok1 e1 r1 => by
    unfold rng1 at h1
    split at h1
    · rename_i j
      cases r1 with
      | cons r1 r2 =>
        cases r2
        cases r1
        obtain ⟨b1, b2, h1⟩ := h1
        exact ⟨j, rfl, by omega, by omega, hq _ _ _ _ _ _ h1 ok1 e1 it_range (by
          unfold rangeD
          rw [List.length_map, List.length_range]
          have := line_big
          omega)⟩
    · exact h1.elim, hx⟩
theorem pdi_range1 {a : Expr} {p pos : Pos} (hg : Gl X "range") (hm : X.mg "range" = none) (ha : PDA X W [a] t) (hs : starEach [a] X.env = [(false, eval a X.env)] := by rfl) : PDI X W tg (.Call (.Name "range" p) [a] [] pos) (dRange1 t) :=
  PIw (pi_range1 hg hm ha hs) range_up
theorem pdi_enum {p pos tpos : Pos} {elts : List Expr} {kk : Nat} (hg : Gl X "enumerate") (hm : X.mg "enumerate" = none) (ha : PDA X W [e] t) (hs : starEach [e] X.env = [(false, eval e X.env)] := by rfl) :
    PDI X W (.Tuple elts kk tpos) (.Call (.Name "enumerate" p) [e] [] pos) (dEnum t) :=
  PIw (pi_enum hg hm ha hs) fun σ H Q ⟨G, M, δ, Q', X', ok, sl, h, hq, hx⟩ => ⟨G, M, δ, _, X', ok, sl, h, fun ds M1 vs H1 G1 h1 ok1 e1 r1 => by
    unfold enumOf at h1
    split at h1
    · cases r1 with
      | cons r1 r2 =>
        cases r2
        cases r1 with
        | lst hg r z => exact ⟨_, _, rfl, SqL.of (ok1.sub _ _ hg), hq _ _ _ _ _ _ h1 ok1 e1 (it_enum hg r) (by rw [enumD_len]; exact z)⟩
    · obtain ⟨xs, m, h2⟩ := elL_of h1
      obtain ⟨g, vs, hH, r, z⟩ := ok1.mem _ _ m
      cases r1 with
      | cons r1 r2 =>
        cases r2
        cases r1
        exact ⟨_, _, rfl, SqL.of hH, hq _ _ _ _ _ _ h2 ok1 e1 it_enumM (by rw [enumD_len]; exact z)⟩
    · exact h1.elim, hx⟩
end

/-! ### comprehensions -/
abbrev PDTs (X : Cx) (W : WX) (ifs : List Expr) (t : DT) : Prop := PTs X ifs (upT X.K W t)
def dYes : DT := fun _ M Q _ => Q true M
def lcL (D0 : Addr) (i : Nat) (tt : DT) (te : DE) (δ : DS) (P : Mem → Prop) (Q : Mem → Prop) : List D → List D → Mem → Prop
  | [], _, M => P M ∧ Q M
  | x :: xs, acc, M => P M ∧ tt (δ.set i (some x)) M (fun b M1 => cond b (te (δ.set i (some x)) M1 (fun d M2 => M2 D0 = some (.lst acc) ∧ lcL D0 i tt te δ P Q xs (acc ++ [d]) (M2.set D0 (.lst (acc ++ [d])))) fun _ _ _ => False) (M1 D0 = some (.lst acc) ∧ lcL D0 i tt te δ P Q xs acc M1)) fun _ _ _ => False
theorem lcL_P {D0 : Addr} {i : Nat} {tt : DT} {te : DE} {δ : DS} {P Q : Mem → Prop} {M : Mem} : ∀ {xs acc : List D}, lcL D0 i tt te δ P Q xs acc M → P M
  | [], _, h => h.1
  | _ :: _, _, h => h.1
/-- [elt for x in items if tt], x in slot i: a list that may change -/
def dLcM (ti : DI) (i : Nat) (tt : DT) (te : DE) : DE := fun δ M Q X => ti δ M (fun items P M1 => ∀ D0, M1 D0 = none → lcL D0 i tt te (dwipe δ [i]) P (fun M2 => Q (.obj D0) M2) items [] (M1.set D0 (.lst []))) X
abbrev dLc (ti : DI) (i : Nat) (tt : DT) (te : DE) : DE := dFrz (dLcM ti i tt te)
section
variable {X : Cx} {W : WX} {K : PySem.W.Frag} {ti : DI} {i : Nat} {tt : DT} {te : DE}
theorem pdts_nil : PDTs X W [] dYes := ⟨fun pins s σ H Q I ⟨G, M, δ, Q', X', ok, sl, h, hq, hx⟩ => (pts_nil (X := X)).run pins s σ H Q I (hq true M H G h ok (Same.refl _))⟩
theorem pdts_one {c : Expr} {t : DT} (h : PDT X W c t) : PDTs X W [c] t := pts_one h
theorem up_frz {te : DE} {σ : L2.St} {H : Hp} {Q : VK} (h : up K W (dFrz te) σ H Q) : up K W te σ H Q := by
  obtain ⟨G, M, δ, Q', X', ok, sl, h, hq, hx⟩ := h
  refine ⟨G, M, δ, _, X', ok, sl, h, fun d M1 v H1 G1 h1 ok1 e1 r1 => ?_, hx⟩
  obtain ⟨d', M', G', h2, ok2, e2, r2⟩ := frz_of ok1 r1 h1
  exact hq _ _ _ _ _ h2 ok2 (e1.trans e2) r2
theorem up_lc {σ : L2.St} {H : Hp} {Q : VK} (h : up K W (dLcM ti i tt te) σ H Q) : tLc (upI K W ti) (gName i) (upT K W0 tt) (up K W0 te) [i] σ H Q := by
  obtain ⟨G, M, δ, Q', X', ok, sl, h, hq, hx⟩ := h
  refine ⟨G, M, δ, _, X', ok, sl, h, fun items P M1 J H1 G1 h1 ok1 e1 it hz => fun D0 hD => ?_, hx⟩
  have gD := ok1.gnone hD
  refine ⟨fun k m H2 => m = items.length - k ∧ k ≤ items.length ∧ ∃ (G2 : Hp) (M2 : Mem) (acc : List D), Ok K H2 G2 M2 ∧ Same G1 G2 ∧ acc.length ≤ k ∧ M2 D0 = some (.lst acc) ∧
    lcL D0 i tt te (dwipe δ [i]) P (fun M2 => Q' (.obj D0) M2) (items.drop k) acc M2, ⟨items.length, by omega, Nat.zero_le _, G1, M1.set D0 (.lst []), [], ok1.write gD ⟨[], upd_same, .nil, Nat.zero_le _⟩, Same.refl _, Nat.le_refl _, Mem.set_same, h1 D0 (ok1.mnone hD)⟩, ?_⟩
  rintro k m H2 ⟨rfl, hk, G2, M2, acc, ok2, e2, ha, hm, hl⟩
  obtain ⟨st, go⟩ := it k H2 G2 M2 ok2 e2 (lcL_P hl)
  by_cases hlt : k < items.length
  · refine .inr ?_
    obtain ⟨g0, gy⟩ := go items[k] (by simp [hlt])
    refine ⟨g0, fun H' => k + 1 ≤ items.length ∧ ∃ (G2 : Hp) (M2 : Mem) (acc : List D), Ok K H' G2 M2 ∧ Same G1 G2 ∧ acc.length ≤ k + 1 ∧ M2 D0 = some (.lst acc) ∧
      lcL D0 i tt te (dwipe δ [i]) P (fun M2 => Q' (.obj D0) M2) (items.drop (k + 1)) acc M2, fun H' hn => ⟨items.length - (k + 1), by omega, rfl, hn.1, hn.2⟩, fun x H' y => ?_⟩
    obtain ⟨G3, ok3, e3, r3⟩ := gy x H' y
    have ed : items.drop k = items[k] :: items.drop (k + 1) := List.drop_eq_getElem_cons hlt
    rw [ed] at hl
    have hl := hl.2
    refine ⟨?_, G3, M2, (dwipe δ [i]).set i (some items[k]), _, _, ok3, ?_, hl, fun b M4 H4 G4 h4 ok4 e4 => ?_, WOk.bot⟩
    · show (((σ.set i none).set i (some x)).set i none) = σ.set i none
      rw [List.set_set, List.set_set]
    · exact Slots.set (.yes r3) i (Slots.wipe (sl.mono (e1.trans (e2.trans e3))) [i])
    · cases b with
      | false =>
        rw [if_neg Bool.false_ne_true]
        exact ⟨hlt, G4, M4, acc, ok4, e2.trans (e3.trans e4), by omega, h4.1, h4.2⟩
      | true =>
        rw [if_pos rfl]
        refine ⟨G4, M4, (dwipe δ [i]).set i (some items[k]), _, _, ok4, ?_, h4, fun d M5 v H5 G5 h5 ok5 e5 r5 => ?_, WOk.bot⟩
        · exact Slots.set (.yes (r3.mono e4)) i (Slots.wipe (sl.mono (e1.trans (e2.trans (e3.trans e4)))) [i])
        · obtain ⟨h5, h6⟩ := h5
          obtain ⟨g5, vs, hH, q, z⟩ := ok5.mem _ _ h5
          refine ⟨vs, hH, by rw [q.len]; omega, hlt, G5, _, _, ok5.write (m := .lst (acc ++ [d])) g5 ⟨_, upd_same, q.append (.one r5), by rw [List.length_append, List.length_singleton]; omega⟩, e2.trans (e3.trans (e4.trans e5)), by rw [List.length_append, List.length_singleton]; omega, Mem.set_same, h6⟩
  · have e : k = items.length := by omega
    subst e
    rw [List.drop_length] at hl
    exact .inl ⟨st (Nat.le_refl _), hq _ _ _ _ _ hl.2 ok2 (e1.trans e2) (.obj D0)⟩
variable {elt tg iter : Expr} {ifs : List Expr} {scope : Scope} {x : Str} {pos : Pos}
theorem pd_lcM (hc : X.calm = true) (hN : X.N.Nodup) (hi : PDI X W tg iter ti) (ok : BlkOk X.N X.env.scope scope [(x, i)])
    (hg : ∀ (s : Shared) (H : Hp) (C : Addr) (cl : List (Str × Addr)) (fp : List Addr), PG (X.blk s H scope (compEnvC scope cl C X.env) fp) tg (gName i)) (ht : ∀ (s : Shared) (H : Hp) (C : Addr) (cl : List (Str × Addr)) (fp : List Addr), PDTs (X.blk s H scope (compEnvC scope cl C X.env) fp) W0 ifs tt)
    (he : ∀ (s : Shared) (H : Hp) (C : Addr) (cl : List (Str × Addr)) (fp : List Addr), PD (X.blk s H scope (compEnvC scope cl C X.env) fp) W0 elt te) (hs : ∀ x, foldedSetIterable iter X.env x = pure x := by intro _; rfl) :
    PD X W (.ListComp elt [⟨tg, iter, ifs, 0⟩] scope pos) (dLcM ti i tt te) := PEw (pe_lc hc hN hi ok hg ht he hs) fun _ _ _ h => up_lc h
theorem pd_lc (hc : X.calm = true) (hN : X.N.Nodup) (hi : PDI X W tg iter ti) (ok : BlkOk X.N X.env.scope scope [(x, i)])
    (hg : ∀ (s : Shared) (H : Hp) (C : Addr) (cl : List (Str × Addr)) (fp : List Addr), PG (X.blk s H scope (compEnvC scope cl C X.env) fp) tg (gName i)) (ht : ∀ (s : Shared) (H : Hp) (C : Addr) (cl : List (Str × Addr)) (fp : List Addr), PDTs (X.blk s H scope (compEnvC scope cl C X.env) fp) W0 ifs tt)
    (he : ∀ (s : Shared) (H : Hp) (C : Addr) (cl : List (Str × Addr)) (fp : List Addr), PD (X.blk s H scope (compEnvC scope cl C X.env) fp) W0 elt te) (hs : ∀ x, foldedSetIterable iter X.env x = pure x := by intro _; rfl) :
    PD X W (.ListComp elt [⟨tg, iter, ifs, 0⟩] scope pos) (dLc ti i tt te) := pd_frz (pd_lcM hc hN hi ok hg ht he hs)
end

/-- a comprehension whose parts only read -/
theorem lcL_pure {D0 : Addr} {i : Nat} {tt : DT} {te : DE} {δ : DS} {P Q : Mem → Prop} {M : Mem} (hD : M D0 = none) (hP : ∀ M', M.Sub M' → P M') (p : D → Bool) (f : D → D) : ∀ {xs : List D} {acc : List D},
    (∀ x, x ∈ xs → ∀ M', M.Sub M' → ∀ Qb : Bool → Mem → Prop, Qb (p x) M' → tt (δ.set i (some x)) M' Qb fun _ _ _ => False) →
    (∀ x, x ∈ xs → p x = true → ∀ M', M.Sub M' → ∀ Qd : QD, Qd (f x) M' → te (δ.set i (some x)) M' Qd fun _ _ _ => False) →
    Q (M.set D0 (.lst (acc ++ (xs.filter p).map f))) → lcL D0 i tt te δ P Q xs acc (M.set D0 (.lst acc))
  | [], acc, _, _, h => by
    refine ⟨hP _ (Mem.sub_set hD), ?_⟩
    simpa using h
  | x :: xs, acc, h1, h2, h => by
    refine ⟨hP _ (Mem.sub_set hD), h1 x List.mem_cons_self _ (Mem.sub_set hD) _ ?_⟩
    cases e : p x with
    | true =>
      refine h2 x List.mem_cons_self e _ (Mem.sub_set hD) _ ⟨Mem.set_same, ?_⟩
      rw [Mem.set_set]
      refine lcL_pure hD hP p f (fun y hy => h1 y (List.mem_cons_of_mem _ hy)) (fun y hy => h2 y (List.mem_cons_of_mem _ hy)) ?_
      rw [List.filter_cons_of_pos e, List.map_cons] at h
      rw [List.append_assoc]
      exact h
    | false =>
      refine ⟨Mem.set_same, lcL_pure hD hP p f (fun y hy => h1 y (List.mem_cons_of_mem _ hy)) (fun y hy => h2 y (List.mem_cons_of_mem _ hy)) ?_⟩
      rw [List.filter_cons_of_neg (by rw [e]; exact Bool.false_ne_true)] at h
      exact h
end DL

/-! The data layer: statements -/
namespace DL
open PySem PySem.Spec PyProof.Rows L2

theorem EOk.mono {K : PySem.W.Frag} {W : WX} {G G1 : Hp} {E : DEnds} {D' : Ends} (h : EOk K W G E D') (e : Same G G1) : EOk K W G1 E D' :=
  ⟨fun δ M σ H G' a b s => h.nx δ M σ H G' a b (e.trans s), fun d M v H G' a b s => h.rt d M v H G' a b (e.trans s), fun δ M σ H G' a b s => h.bk δ M σ H G' a b (e.trans s), fun δ M σ H G' a b s => h.ct δ M σ H G' a b (e.trans s), h.xc.mono e⟩

def dNext : DSt := fun E δ M => E.nx δ M
def dSeq (t u : DSt) : DSt := fun E δ M => t { E with nx := u E } δ M
def dExpr (te : DE) : DSt := fun E δ M => te δ M (fun _ M1 => E.nx δ M1) E.xc
def dRet (te : DE) : DSt := fun E δ M => te δ M E.rt E.xc
def dIfS (c : DT) (t u : DSt) : DSt := fun E δ M => c δ M (fun b M1 => cond b (t E δ M1) (u E δ M1)) E.xc
def dSet (i : Nat) (te : DE) : DSt := fun E δ M => te δ M (fun d M1 => E.nx (δ.set i (some d)) M1) E.xc
def dCont : DSt := fun E δ M => E.ct δ M
def dRaise (C : Addr) : DSt := fun E δ M => E.xc C δ M
/-- code that is never come to -/
def dNever : DSt := fun _ _ _ => False
section
variable {X : Cx} {W : WX} {K : PySem.W.Frag} {st : Stmt} {rest : List Stmt} {t u : DSt} {e : Expr} {te : DE} {pos : Pos}
theorem pdss_nil : PDSs X W [] dNext := PSsw pss_nil fun D σ H ⟨G, M, δ, E, ok, sl, h, eo⟩ => eo.nx _ _ _ _ _ h ok (Same.refl _) sl
theorem pdss_cons (h1 : PDS X W st t) (h2 : PDSs X W rest u) : PDSs X W (st :: rest) (dSeq t u) :=
  PSsw (pss_cons h1 h2) fun D σ H ⟨G, M, δ, E, ok, sl, h, eo⟩ => ⟨G, M, δ, _, ok, sl, h, ⟨fun δ' M' σ' H' G' h' ok' e' sl' => ⟨G', M', δ', E, ok', sl', h', eo.mono e'⟩, eo.rt, eo.bk, eo.ct, eo.xc⟩⟩
theorem pdss_one (h1 : PDS X W st t) : PDSs X W [st] t := pss_one h1
theorem pds_expr (he : PD X W e te) (hs : swapsWith e none pos.line X.env = pure false := by rfl) : PDS X W (.Expr e pos) (dExpr te) :=
  PSw (ps_expr he hs) fun D σ H ⟨G, M, δ, E, ok, sl, h, eo⟩ => ⟨G, M, δ, _, _, ok, sl, h, fun d M1 v H1 G1 h1 ok1 e1 r1 => eo.nx _ _ _ _ _ h1 ok1 e1 (sl.mono e1), eo.xc⟩
theorem pds_ret (he : PD X W e te) : PDS X W (.Return (some e) pos) (dRet te) :=
  PSw (ps_ret he) fun D σ H ⟨G, M, δ, E, ok, sl, h, eo⟩ => ⟨G, M, δ, _, _, ok, sl, h, fun d M1 v H1 G1 h1 ok1 e1 r1 => eo.rt _ _ _ _ _ h1 ok1 e1 r1, eo.xc⟩
theorem pds_if {c : Expr} {a b : List Stmt} {tc : DT} (hc : PDT X W c tc) (ha : PDSs X W a t) (hb : PDSs X W b u) : PDS X W (.If c a b pos) (dIfS tc t u) :=
  PSw (ps_if hc ha hb) fun D σ H ⟨G, M, δ, E, ok, sl, h, eo⟩ => ⟨G, M, δ, _, _, ok, sl, h, fun d M1 H1 G1 h1 ok1 e1 => by
    cases d with
    | true => rw [if_pos rfl]; exact ⟨G1, M1, δ, E, ok1, sl.mono e1, h1, eo.mono e1⟩
    | false => rw [if_neg Bool.false_ne_true]; exact ⟨G1, M1, δ, E, ok1, sl.mono e1, h1, eo.mono e1⟩, eo.xc⟩
theorem pds_pass : PDS X W (.Pass pos) dNext := PSw ps_pass fun D σ H ⟨G, M, δ, E, ok, sl, h, eo⟩ => eo.nx _ _ _ _ _ h ok (Same.refl _) sl
theorem pds_cont : PDS X W (.Continue pos) dCont := PSw ps_continue fun D σ H ⟨G, M, δ, E, ok, sl, h, eo⟩ => eo.ct _ _ _ _ _ h ok (Same.refl _) sl
theorem pds_never : PDS X W st dNever := PSw ps_never fun D σ H ⟨G, M, δ, E, ok, sl, h, eo⟩ => h.elim
/-- name = value -/
theorem pds_set {i : Nat} {x : Str} {pos' : Pos} (hN : X.N.Nodup) (hi : X.N[i]? = some x) (hx : Loc X.env.scope x) (he : PD X W e te) (hs : swapsWith e (some (.Name x pos')) pos.line X.env = pure false := by rfl) (hf : X.fn x = true ∨ X.env.scope.names.lookup x = some .local := by first | exact .inl rfl | exact .inr rfl | assumption) :
    PDS X W (.Assign [.Name x pos'] e pos) (dSet i te) :=
  PSw (ps_set hN hi hx he hs hf) fun D σ H ⟨G, M, δ, E, ok, sl, h, eo⟩ => ⟨G, M, δ, _, _, ok, sl, h, fun d M1 v H1 G1 h1 ok1 e1 r1 => eo.nx _ _ _ _ _ h1 ok1 e1 (Slots.set (.yes r1) i (sl.mono e1)), eo.xc⟩
/-- name = [..] on one line, the name a local -/
theorem pds_setLcM {i j : Nat} {y x : Str} {py : Pos} {elt tg iter : Expr} {ifs : List Expr} {scope : Scope} {pos spos : Pos} {ti : DI} {tt : DT} {te : DE} (hc : X.calm = true) (hN : X.N.Nodup) (hy : X.N[i]? = some y) (hyl : X.env.scope.names.lookup y = some .local)
    (hsw : swapsWith (.ListComp elt [⟨tg, iter, ifs, 0⟩] scope pos) (some (.Name y py)) spos.line X.env = pure true) (hi : PDI X W tg iter ti) (ok : BlkOk X.N X.env.scope scope [(x, j)])
    (hg : ∀ (s : Shared) (H : Hp) (C : Addr) (cl : List (Str × Addr)) (fp : List Addr), PG (X.blk s H scope (compEnvC scope cl C X.env) fp) tg (gName j)) (ht : ∀ (s : Shared) (H : Hp) (C : Addr) (cl : List (Str × Addr)) (fp : List Addr), PDTs (X.blk s H scope (compEnvC scope cl C X.env) fp) W0 ifs tt)
    (he : ∀ (s : Shared) (H : Hp) (C : Addr) (cl : List (Str × Addr)) (fp : List Addr), PD (X.blk s H scope (compEnvC scope cl C X.env) fp) W0 elt te) (hs : ∀ x, foldedSetIterable iter X.env x = pure x := by intro _; rfl) :
    PDS X W (.Assign [.Name y py] (.ListComp elt [⟨tg, iter, ifs, 0⟩] scope pos) spos) (dSet i (dLcM ti j tt te)) :=
  PSw (ps_setLc hc hN hy hyl hsw hi ok hg ht he hs) fun D σ H ⟨G, M, δ, E, ok, sl, h, eo⟩ => up_lc (W := W) ⟨G, M, δ, _, _, ok, sl, h, fun d M1 v H1 G1 h1 ok1 e1 r1 => eo.nx _ _ _ _ _ h1 ok1 e1 (Slots.set (.yes r1) i (sl.mono e1)), eo.xc⟩
theorem pds_setLc {i j : Nat} {y x : Str} {py : Pos} {elt tg iter : Expr} {ifs : List Expr} {scope : Scope} {pos spos : Pos} {ti : DI} {tt : DT} {te : DE} (hc : X.calm = true) (hN : X.N.Nodup) (hy : X.N[i]? = some y) (hyl : X.env.scope.names.lookup y = some .local)
    (hsw : swapsWith (.ListComp elt [⟨tg, iter, ifs, 0⟩] scope pos) (some (.Name y py)) spos.line X.env = pure true) (hi : PDI X W tg iter ti) (ok : BlkOk X.N X.env.scope scope [(x, j)])
    (hg : ∀ (s : Shared) (H : Hp) (C : Addr) (cl : List (Str × Addr)) (fp : List Addr), PG (X.blk s H scope (compEnvC scope cl C X.env) fp) tg (gName j)) (ht : ∀ (s : Shared) (H : Hp) (C : Addr) (cl : List (Str × Addr)) (fp : List Addr), PDTs (X.blk s H scope (compEnvC scope cl C X.env) fp) W0 ifs tt)
    (he : ∀ (s : Shared) (H : Hp) (C : Addr) (cl : List (Str × Addr)) (fp : List Addr), PD (X.blk s H scope (compEnvC scope cl C X.env) fp) W0 elt te) (hs : ∀ x, foldedSetIterable iter X.env x = pure x := by intro _; rfl) :
    PDS X W (.Assign [.Name y py] (.ListComp elt [⟨tg, iter, ifs, 0⟩] scope pos) spos) (dSet i (dLc ti j tt te)) :=
  PSw (ps_setLc hc hN hy hyl hsw hi ok hg ht he hs) fun D σ H ⟨G, M, δ, E, ok, sl, h, eo⟩ => up_lc (W := W) (up_frz ⟨G, M, δ, _, _, ok, sl, h, fun d M1 v H1 G1 h1 ok1 e1 r1 => eo.nx _ _ _ _ _ h1 ok1 e1 (Slots.set (.yes r1) i (sl.mono e1)), eo.xc⟩)
end

/-! ### d[k] = v -/
def elD : Option MO → (List (Str × D) → Prop) → Prop
  | some (.dic kvs), F => F kvs
  | _, _ => False
theorem elD_of {o : Option MO} {F : List (Str × D) → Prop} (h : elD o F) : ∃ ds, o = some (.dic ds) ∧ F ds := by
  cases o with
  | none => exact h.elim
  | some m => cases m with
    | dic ds => exact ⟨ds, rfl, h⟩
    | lst _ => exact h.elim
    | ins _ _ => exact h.elim
def dput : List (Str × D) → Str → D → List (Str × D)
  | [], k, d => [(k, d)]
  | (k', d') :: r, k, d => if k' = k then (k, d) :: r else (k', d') :: dput r k d
def putDic (x k v : D) (M : Mem) (F : Mem → Prop) : Prop := match x, k with
  | .obj a, .str s => elD (M a) fun kvs => few 99 (kvs.map (·.2)) ∧ (kvs.map (·.1)).Nodup ∧ F (M.set a (.dic (dput kvs s v)))
  | _, _ => False
def dPut (td tk tv : DE) : DSt := fun E δ M => tv δ M (fun v M1 => td δ M1 (fun x M2 => tk δ M2 (fun k M3 => putDic x k v M3 fun M4 => E.nx δ M4) E.xc) E.xc) E.xc
section
variable {X : Cx} {W : WX} {K : PySem.W.Frag} {o i value : Expr} {td tk tv : DE} {pos pos' : Pos}
theorem dput_rel {G : Hp} {s : Str} {d : D} {v : V} (rv : Rep K G v d) : ∀ {ds : List (Str × D)} {kv : List (Key × V)}, kv.map (·.1) = ds.map (fun p => (Sum.inr p.1 : Key)) → RepL K G (kv.map (·.2)) (ds.map (·.2)) → (ds.map (·.1)).Nodup →
    (putK kv (Sum.inr s) v).map (·.1) = (dput ds s d).map (fun p => (Sum.inr p.1 : Key)) ∧ RepL K G ((putK kv (Sum.inr s) v).map (·.2)) ((dput ds s d).map (·.2)) := by
  have nomatch_ : ∀ {ds : List (Str × D)} {kv : List (Key × V)}, kv.map (·.1) = ds.map (fun p => (Sum.inr p.1 : Key)) → s ∉ ds.map (·.1) → valV kv (Sum.inr s) = none := by
    intro ds
    induction ds with
    | nil => intro kv h _; cases kv with
      | nil => rfl
      | cons _ _ => cases h
    | cons p r ih =>
      intro kv h hn
      cases kv with
      | nil => rfl
      | cons q t =>
        simp only [List.map_cons, List.cons.injEq] at h
        simp only [List.map_cons, List.mem_cons, not_or] at hn
        rw [valV_neg (by rw [h.1]; exact fun z => hn.1 (Sum.inr.inj z).symm)]
        exact ih h.2 hn.2
  have mapsame : ∀ {ds : List (Str × D)} {kv : List (Key × V)}, kv.map (·.1) = ds.map (fun p => (Sum.inr p.1 : Key)) → s ∉ ds.map (·.1) → kv.map (fun kv : Key × V => if kv.1 = Sum.inr s then (kv.1, v) else kv) = kv := by
    intro ds
    induction ds with
    | nil => intro kv h _; cases kv with
      | nil => rfl
      | cons _ _ => cases h
    | cons p r ih =>
      intro kv h hn
      cases kv with
      | nil => rfl
      | cons q t =>
        simp only [List.map_cons, List.cons.injEq] at h
        simp only [List.map_cons, List.mem_cons, not_or] at hn
        rw [List.map_cons, if_neg (by rw [h.1]; exact fun z => hn.1 (Sum.inr.inj z).symm), ih h.2 hn.2]
  intro ds
  induction ds with
  | nil =>
    intro kv h r _
    cases kv with
    | nil =>
      have : putK ([] : List (Key × V)) (Sum.inr s) v = [(Sum.inr s, v)] := rfl
      rw [this]
      exact ⟨rfl, .one rv⟩
    | cons _ _ => cases h
  | cons p r ih =>
    intro kv h q nd
    cases kv with
    | nil => cases h
    | cons y t =>
      obtain ⟨k, d'⟩ := p
      obtain ⟨k', v'⟩ := y
      simp only [List.map_cons, List.cons.injEq] at h
      obtain ⟨h1, h2⟩ := h
      subst h1
      have nd' := List.nodup_cons.mp nd
      cases q with
      | cons q1 q2 =>
        unfold dput
        by_cases e : k = s
        · subst e
          rw [if_pos rfl]
          have hp : putK ((Sum.inr k, v') :: t) (Sum.inr k) v = (Sum.inr k, v) :: t := by
            unfold putK
            rw [if_pos (by simp)]
            rw [List.map_cons, if_pos rfl, mapsame h2 nd'.1]
          rw [hp]
          exact ⟨by simp only [List.map_cons]; rw [h2], .cons rv q2⟩
        · rw [if_neg e]
          obtain ⟨i1, i2⟩ := ih h2 q2 nd'.2
          have hp : putK ((Sum.inr k, v') :: t) (Sum.inr s) v = (Sum.inr k, v') :: putK t (Sum.inr s) v := by
            have ne : ¬ (Sum.inr k : Key) = Sum.inr s := fun z => e (Sum.inr.inj z)
            unfold putK
            rw [List.any_cons, decide_eq_false ne, Bool.false_or]
            split
            · rw [List.map_cons, if_neg ne]
            · rfl
          rw [hp]
          exact ⟨by simp only [List.map_cons]; rw [i1], .cons q1 i2⟩
theorem dput_len (ds : List (Str × D)) (s : Str) (d : D) : (dput ds s d).length ≤ ds.length + 1 := by
  induction ds with
  | nil => exact Nat.le_refl _
  | cons p r ih =>
    obtain ⟨k, d'⟩ := p
    unfold dput
    split
    · simp
    · simp only [List.length_cons]; omega
theorem pds_put (hu : X.A.units + 1 < cLine) (ho : PD X W o td) (hi : PD X W i tk) (hv : PD X W value tv) (hs : swapsWith value (some (.Subscript o i pos')) pos.line X.env = pure false := by rfl) :
    PDS X W (.Assign [.Subscript o i pos'] value pos) (dPut td tk tv) :=
  PSw (ps_dput hu ho hi hv hs) fun D σ H ⟨G, M, δ, E, ok, sl, h, eo⟩ => ⟨G, M, δ, _, _, ok, sl, h, fun d M1 v H1 G1 h1 ok1 e1 r1 => ⟨G1, M1, δ, _, _, ok1, sl.mono e1, h1, fun x M2 xv H2 G2 h2 ok2 e2 r2 =>
    ⟨G2, M2, δ, _, _, ok2, (sl.mono e1).mono e2, h2, fun k M3 kv H3 G3 h3 ok3 e3 r3 => by
      unfold putDic at h3
      split at h3
      · obtain ⟨kvs, m, f, nd, h4⟩ := elD_of h3
        obtain ⟨g, kk, hH, k1, q⟩ := ok3.mem _ _ m
        cases r2
        cases r3
        have hl : kk.length = kvs.length := by have := congrArg List.length k1; simpa using this
        have hz := few_le f
        rw [List.length_map] at hz
        obtain ⟨i1, i2⟩ := dput_rel ((r1.mono e2).mono e3) k1 q nd
        exact ⟨_, _, rfl, .inl ⟨kk, .inr _, hH, rfl, small1000 (by omega), rfl⟩, eo.nx _ _ _ _ _ h4 (ok3.write (m := .dic _) g ⟨_, upd_same, i1, i2⟩) (e1.trans (e2.trans e3)) (sl.mono (e1.trans (e2.trans e3)))⟩
      · exact h3.elim, eo.xc.mono (e1.trans e2)⟩, eo.xc.mono e1⟩, eo.xc⟩
end

/-! ### the fields of an instance -/
def elI (C : Addr) : Option MO → (List (Str × D) → Prop) → Prop
  | some (.ins C' fs), F => C' = C ∧ F fs
  | _, _ => False
theorem elI_of {C : Addr} {o : Option MO} {F : List (Str × D) → Prop} (h : elI C o F) : ∃ ds, o = some (.ins C ds) ∧ F ds := by
  cases o with
  | none => exact h.elim
  | some m => cases m with
    | ins C' ds => obtain ⟨e, h⟩ := h; subst e; exact ⟨ds, rfl, h⟩
    | lst _ => exact h.elim
    | dic _ => exact h.elim
def getFld (C : Addr) (f : Str) (x : D) (M : Mem) (Q : QD) : Prop := match x with
  | .obj a => elI C (M a) fun fs => el (look fs f) fun d => Q d M
  | _ => False
def dFld (C : Addr) (f : Str) (t : DE) : DE := fun δ M Q X => t δ M (fun x M1 => getFld C f x M1 Q) X
def setFld (C : Addr) (f : Str) (x v : D) (M : Mem) (F : Mem → Prop) : Prop := match x with
  | .obj a => elI C (M a) fun fs => few 99 (fs.map (·.2)) ∧ F (M.set a (.ins C (dput fs f v)))
  | _ => False
def dFldS (C : Addr) (f : Str) (to tv : DE) : DSt := fun E δ M => tv δ M (fun v M1 => to δ M1 (fun x M2 => setFld C f x v M2 fun M3 => E.nx δ M3) E.xc) E.xc
section
variable {X : Cx} {W : WX} {K : PySem.W.Frag} {o e value : Expr} {te to tv : DE} {pos pos' : Pos} {C : Addr} {f : Str}
theorem look_flds {G : Hp} {x : Str} {d : D} : ∀ {ds : List (Str × D)} {fv : List (Str × V)}, fv.map (·.1) = ds.map (·.1) → RepL K G (fv.map (·.2)) (ds.map (·.2)) → look ds x = some d → ∃ v, fv.lookup x = some v ∧ Rep K G v d
  | [], _, _, _, h => by cases h
  | (k, d') :: r, [], h, _, _ => by cases h
  | (k, d') :: r, (k', v') :: r', h1, h2, h3 => by
    simp only [List.map_cons, List.cons.injEq] at h1
    obtain ⟨e1, h1⟩ := h1
    subst e1
    cases h2 with
    | cons q t =>
      unfold look at h3
      by_cases e : k' = x
      · rw [if_pos e] at h3; cases h3
        exact ⟨v', by subst e; simp [List.lookup], q⟩
      · rw [if_neg e] at h3
        obtain ⟨v, e1, e2⟩ := look_flds h1 t h3
        refine ⟨v, ?_, e2⟩
        have : (x == k') = false := beq_eq_false_iff_ne.mpr (Ne.symm e)
        simp only [List.lookup, this]
        exact e1
theorem look_flds_none {x : Str} : ∀ {ds : List (Str × D)} {fv : List (Str × V)}, fv.map (·.1) = ds.map (·.1) → look ds x = none → fv.lookup x = none
  | [], [], _, _ => rfl
  | [], _ :: _, h, _ => by cases h
  | (k, d') :: r, [], h, _ => by cases h
  | (k, d') :: r, (k', v') :: r', h1, h3 => by
    simp only [List.map_cons, List.cons.injEq] at h1
    obtain ⟨e1, h1⟩ := h1
    subst e1
    unfold look at h3
    by_cases e : k' = x
    · rw [if_pos e] at h3; cases h3
    · rw [if_neg e] at h3
      have : (x == k') = false := beq_eq_false_iff_ne.mpr (Ne.symm e)
      simp only [List.lookup, this]
      exact look_flds_none h1 h3
theorem putF_rel {G : Hp} {s : Str} {d : D} {v : V} (rv : Rep K G v d) : ∀ {ds : List (Str × D)} {fv : List (Str × V)}, fv.map (·.1) = ds.map (·.1) → RepL K G (fv.map (·.2)) (ds.map (·.2)) →
    (putF s v fv).map (·.1) = (dput ds s d).map (·.1) ∧ RepL K G ((putF s v fv).map (·.2)) ((dput ds s d).map (·.2))
  | [], [], _, _ => ⟨rfl, .one rv⟩
  | [], _ :: _, h, _ => by cases h
  | (k, d') :: r, [], h, _ => by cases h
  | (k, d') :: r, (k', v') :: r', h1, h2 => by
    simp only [List.map_cons, List.cons.injEq] at h1
    obtain ⟨e1, h1⟩ := h1
    subst e1
    cases h2 with
    | cons q t =>
      unfold putF dput
      by_cases e : k' = s
      · rw [if_pos e, if_pos e]
        exact ⟨by simp only [List.map_cons]; rw [h1, e], .cons rv t⟩
      · rw [if_neg e, if_neg e]
        obtain ⟨i1, i2⟩ := putF_rel rv h1 t
        exact ⟨by simp only [List.map_cons]; rw [i1], .cons q i2⟩
theorem pd_fld (c : Cls X.K C) (n : NoAttr X.K C f) (he : PD X W e te) (hb : attributeBase e f X.env (eval e X.env) = eval e X.env := by rfl) : PD X W (.Attribute e f pos) (dFld C f te) :=
  PEw (pe_fld he hb) fun σ H Q ⟨G, M, δ, Q', X', ok, sl, h, hq, hx⟩ => ⟨G, M, δ, _, X', ok, sl, h, fun d M1 v H1 G1 h1 ok1 e1 r1 => by
    unfold getFld at h1
    split at h1
    · obtain ⟨fs, m, h2⟩ := elI_of h1
      obtain ⟨d, el, h2⟩ := el_of h2
      obtain ⟨g, dx, fv, hH, k, q⟩ := ok1.mem _ _ m
      cases r1
      obtain ⟨z, ez, rz⟩ := look_flds k q el
      exact ⟨_, C, dx, fv, z, rfl, hH, c, n, ez, hq _ _ _ _ _ h2 ok1 e1 rz⟩
    · exact h1.elim, hx⟩
theorem pds_fld (c : Cls X.K C) (n : NoAttr X.K C f) (ha : PD X W o to) (hv : PD X W value tv) (hs : swapsWith value (some (.Attribute o f pos')) pos.line X.env = pure false := by rfl) : PDS X W (.Assign [.Attribute o f pos'] value pos) (dFldS C f to tv) :=
  PSw (ps_fld ha hv hs) fun D σ H ⟨G, M, δ, E, ok, sl, h, eo⟩ => ⟨G, M, δ, _, _, ok, sl, h, fun d M1 v H1 G1 h1 ok1 e1 r1 => ⟨G1, M1, δ, _, _, ok1, sl.mono e1, h1, fun x M2 xv H2 G2 h2 ok2 e2 r2 => by
      unfold setFld at h2
      split at h2
      · obtain ⟨fs, m, f, h3⟩ := elI_of h2
        obtain ⟨g, dx, fv, hH, k, q⟩ := ok2.mem _ _ m
        cases r2
        have hl : fv.length = fs.length := by have := congrArg List.length k; simpa using this
        have hz := few_le f
        rw [List.length_map] at hz
        obtain ⟨i1, i2⟩ := putF_rel (r1.mono e2) k q
        exact ⟨_, C, dx, fv, rfl, hH, c, n, by omega, eo.nx _ _ _ _ _ h3 (ok2.write (m := .ins C _) g ⟨dx, _, upd_same, i1, i2⟩) (e1.trans e2) (sl.mono (e1.trans e2))⟩
      · exact h2.elim, eo.xc.mono e1⟩, eo.xc⟩
end

/-! ### for, while -/
abbrev DG := D → DS → Mem → (DS → Mem → Prop) → Prop
def upG (K : PySem.W.Frag) (t : DG) : TG := fun v σ H Q => ∃ (G : Hp) (M : Mem) (δ : DS) (d : D) (Q' : DS → Mem → Prop), Ok K H G M ∧ Slots K G σ δ ∧ Rep K G v d ∧ t d δ M Q' ∧ (∀ δ' M' σ' H' G', Q' δ' M' → Ok K H' G' M' → Same G G' → Slots K G' σ' δ' → Q σ' H')
abbrev PDG (X : Cx) (tg : Expr) (t : DG) : Prop := PG X tg (upG X.K t)
theorem PGw {X : Cx} {e : Expr} {t t' : TG} (h : PG X e t) (w : ∀ v σ H Q, t' v σ H Q → t v σ H Q) : PG X e t' := ⟨fun pins s σ H v u Q I r q => h.run pins s σ H v u Q I r (w v σ H Q q)⟩
def dgName (i : Nat) : DG := fun d δ M Q => Q (δ.set i (some d)) M
def two (d : D) (F : D → D → Prop) : Prop := match d with
  | .tup [x, y] => F x y
  | _ => False
def dgPair (i j : Nat) : DG := fun d δ M Q => two d fun x y => Q ((δ.set i (some x)).set j (some y)) M
def forL (g : DG) (tb : DSt) (E : DEnds) : List D → DS → Mem → Prop
  | [], δ, M => E.nx δ M
  | x :: xs, δ, M => g x δ M fun δ2 M2 => tb { E with nx := forL g tb E xs, ct := forL g tb E xs, bk := E.nx } δ2 M2
/-- by what holds between two turns -/
def forI (P : Mem → Prop) (g : DG) (tb : DSt) (E : DEnds) (items : List D) (δ : DS) (M : Mem) : Prop := ∃ Iv : Nat → DS → Mem → Prop, Iv 0 δ M ∧
  (∀ k x δ M, items[k]? = some x → Iv k δ M → P M ∧ g x δ M fun δ2 M2 => tb { E with nx := Iv (k + 1), ct := Iv (k + 1), bk := E.nx } δ2 M2) ∧ ∀ δ M, Iv items.length δ M → P M ∧ E.nx δ M
theorem forI_of {g : DG} {tb : DSt} {E : DEnds} {items : List D} {δ : DS} {M : Mem} (h : forL g tb E items δ M) : forI still g tb E items δ M := by
  refine ⟨fun k δ M => forL g tb E (items.drop k) δ M, h, fun k x δ M hx hk => ⟨trivial, ?_⟩, fun δ M hk => ⟨trivial, ?_⟩⟩
  · obtain ⟨hl, e⟩ := List.getElem?_eq_some_iff.mp hx
    have ed : items.drop k = items[k] :: items.drop (k + 1) := List.drop_eq_getElem_cons hl
    have hk : forL g tb E (items.drop k) δ M := hk
    rw [ed, e] at hk
    exact hk
  · have hk : forL g tb E (items.drop items.length) δ M := hk
    rw [List.drop_length] at hk
    exact hk
def dFor (ti : DI) (g : DG) (tb : DSt) : DSt := fun E δ M => ti δ M (fun items P M1 => forI P g tb E items δ M1) E.xc
def dWhile (c : DT) (tb : DSt) : DSt := fun E δ M => ∃ Iv : Nat → DS → Mem → Prop, (∃ m, Iv m δ M) ∧ ∀ m δ M, Iv m δ M →
  c δ M (fun b M1 => cond b (tb { E with nx := fun δ' M' => ∃ m', m' < m ∧ Iv m' δ' M', ct := fun δ' M' => ∃ m', m' < m ∧ Iv m' δ' M', bk := E.nx } δ M1) (E.nx δ M1)) E.xc
section
variable {X : Cx} {W : WX} {K : PySem.W.Frag} {pos : Pos}
theorem pdg_name {i : Nat} {x : Str} (hN : X.N.Nodup) (hi : X.N[i]? = some x) (hx : Loc X.env.scope x) (hf : X.fn x = true ∨ X.env.scope.names.lookup x = some .local := by first | exact .inl rfl | exact .inr rfl | assumption) : PDG X (.Name x pos) (dgName i) :=
  PGw (pg_name hN hi hx hf) fun v σ H Q ⟨G, M, δ, d, Q', ok, sl, r, h, hq⟩ => hq _ _ _ _ _ h ok (Same.refl _) (Slots.set (.yes r) i sl)
theorem pdg_pair {i j : Nat} {x y : Str} {p1 p2 : Pos} {k : Nat} (hc : X.calm = true) (hN : X.N.Nodup) (hi : X.N[i]? = some x) (hx : Loc X.env.scope x) (hj : X.N[j]? = some y) (hy : Loc X.env.scope y)
    (hn : (assignEach [.Name x p1, .Name y p2] X.env).length = 2 := by rfl) (hst : (assignEach [.Name x p1, .Name y p2] X.env).findIdx? (·.1) = none := by rfl)
    (h1 : (assignEach [.Name x p1, .Name y p2] X.env).map (·.2) = assign (.Name x p1) X.env :: (assignEach [.Name y p2] X.env).map (·.2) := by rfl)
    (h2 : (assignEach [.Name y p2] X.env).map (·.2) = assign (.Name y p2) X.env :: (assignEach [] X.env).map (·.2) := by rfl)
    (hf : X.fn x = true ∨ X.env.scope.names.lookup x = some .local := by first | exact .inl rfl | exact .inr rfl | assumption) (hf2 : X.fn y = true ∨ X.env.scope.names.lookup y = some .local := by first | exact .inl rfl | exact .inr rfl | assumption) : PDG X (.Tuple [.Name x p1, .Name y p2] k pos) (dgPair i j) :=
  PGw (pg_tup hc (pgs_cons (pg_name hN hi hx hf) (pgs_cons (pg_name hN hj hy hf2) pgs_nil h2) h1) hn hst) fun v σ H Q ⟨G, M, δ, d, Q', ok, sl, r, h, hq⟩ => by
    unfold dgPair two at h
    split at h
    · cases r with
      | tup hg q z =>
        cases q with
        | cons q1 q2 => cases q2 with
          | cons q2 q3 =>
            cases q3
            refine ⟨_, _, rfl, SqT.of (ok.sub _ _ hg), rfl, _, _, rfl, _, _, rfl, rfl, ?_⟩
            exact hq _ _ _ _ _ h ok (Same.refl _) (Slots.set (.yes q2) j (Slots.set (.yes q1) i sl))
    · exact h.elim
theorem for_up {ti : DI} {g : DG} {tb : DSt} : ∀ (D : Ends) (σ : L2.St) (H : Hp), upS X.K W (dFor ti g tb) D σ H → tFor (upI X.K W ti) (upG X.K g) (upS X.K W tb) D σ H := fun D σ H ⟨G, M, δ, E, ok, sl, h, eo⟩ => ⟨G, M, δ, _, _, ok, sl, h, fun items P M1 J H1 G1 h1 ok1 e1 it hz => by
    obtain ⟨Iv, i0, hst, hend⟩ := h1
    refine ⟨fun k m σ H2 => m = items.length - k ∧ k ≤ items.length ∧ ∃ (G2 : Hp) (M2 : Mem) (δ2 : DS), Ok X.K H2 G2 M2 ∧ Same G1 G2 ∧ Slots X.K G2 σ δ2 ∧ Iv k δ2 M2,
      ⟨items.length, by omega, Nat.zero_le _, G1, M1, δ, ok1, Same.refl _, sl.mono e1, i0⟩, ?_⟩
    rintro k m σ2 H2 ⟨rfl, hk, G2, M2, δ2, ok2, e2, sl2, hl⟩
    by_cases hlt : k < items.length
    · refine .inr ?_
      obtain ⟨hP, hl⟩ := hst k items[k] δ2 M2 (by simp [hlt]) hl
      obtain ⟨st, go⟩ := it k H2 G2 M2 ok2 e2 hP
      obtain ⟨g0, gy⟩ := go items[k] (by simp [hlt])
      refine ⟨g0, fun σ' H' => k + 1 ≤ items.length ∧ ∃ (G2 : Hp) (M2 : Mem) (δ2 : DS), Ok X.K H' G2 M2 ∧ Same G1 G2 ∧ Slots X.K G2 σ' δ2 ∧ Iv (k + 1) δ2 M2, fun σ' H' hn => ⟨items.length - (k + 1), by omega, rfl, hn.1, hn.2⟩, fun x H' y => ?_⟩
      obtain ⟨G3, ok3, e3, r3⟩ := gy x H' y
      refine ⟨G3, M2, δ2, items[k], _, ok3, sl2.mono e3, r3, hl, fun δ4 M4 σ4 H4 G4 h4 ok4 e4 sl4 => ?_⟩
      have ex := e1.trans (e2.trans (e3.trans e4))
      refine ⟨G4, M4, δ4, _, ok4, sl4, h4, ⟨fun δ5 M5 σ5 H5 G5 h5 ok5 e5 sl5 => ⟨hlt, G5, M5, δ5, ok5, e2.trans (e3.trans (e4.trans e5)), sl5, h5⟩, fun d M v H G' h ok s => eo.rt d M v H G' h ok (ex.trans s), fun δ5 M5 σ5 H5 G5 h5 ok5 e5 sl5 => eo.nx _ _ _ _ _ h5 ok5 (ex.trans e5) sl5,
        fun δ5 M5 σ5 H5 G5 h5 ok5 e5 sl5 => ⟨hlt, G5, M5, δ5, ok5, e2.trans (e3.trans (e4.trans e5)), sl5, h5⟩, eo.xc.mono ex⟩⟩
    · have e : k = items.length := by omega
      subst e
      obtain ⟨hP, hl⟩ := hend δ2 M2 hl
      obtain ⟨st, go⟩ := it items.length H2 G2 M2 ok2 e2 hP
      exact .inl ⟨st (Nat.le_refl _), eo.nx _ _ _ _ _ hl ok2 (e1.trans e2) sl2⟩, eo.xc⟩
theorem pds_for {tg iter : Expr} {body : List Stmt} {ti : DI} {g : DG} {tb : DSt} (hp : PassesOwn (model X.prog X.w) X.A X.env X.xe) (hc : X.calm = true) (hi : PDI X W tg iter ti) (hg : PDG X tg g) (hb : PDSs X W body tb)
    (hs : ∀ x, foldedSetIterable iter X.env x = pure x := by intro _; rfl) : PDS X W (.For tg iter body [] pos) (dFor ti g tb) := PSw (ps_for hp hc hi hg hb hs) for_up
theorem pds_while {c : Expr} {body : List Stmt} {tc : DT} {tb : DSt} (hp : PassesOwn (model X.prog X.w) X.A X.env X.xe) (hc : PDT X W c tc) (hb : PDSs X W body tb) : PDS X W (.While c body [] pos) (dWhile tc tb) :=
  PSw (ps_while hp hc hb) fun D σ H ⟨G, M, δ, E, ok, sl, ⟨Iv, ⟨m0, h0⟩, hs⟩, eo⟩ => by
    refine ⟨fun m σ H => ∃ (G2 : Hp) (M2 : Mem) (δ2 : DS), Ok X.K H G2 M2 ∧ Same G G2 ∧ Slots X.K G2 σ δ2 ∧ Iv m δ2 M2, ⟨m0, G, M, δ, ok, Same.refl _, sl, h0⟩, ?_⟩
    rintro m σ2 H2 ⟨G2, M2, δ2, ok2, e2, sl2, hi⟩
    refine ⟨G2, M2, δ2, _, _, ok2, sl2, hs m δ2 M2 hi, fun b M3 H3 G3 h3 ok3 e3 => ?_, eo.xc.mono e2⟩
    cases b with
    | false => rw [if_neg Bool.false_ne_true]; exact eo.nx _ _ _ _ _ h3 ok3 (e2.trans e3) (sl2.mono e3)
    | true =>
      rw [if_pos rfl]
      have ex := e2.trans e3
      refine ⟨fun σ' H' => ∃ m', m' < m ∧ ∃ (G2 : Hp) (M2 : Mem) (δ2 : DS), Ok X.K H' G2 M2 ∧ Same G G2 ∧ Slots X.K G2 σ' δ2 ∧ Iv m' δ2 M2, fun σ' H' ⟨m', l, q⟩ => ⟨m', l, q⟩, G3, M3, δ2, _, ok3, sl2.mono e3, h3, ?_⟩
      exact ⟨fun δ5 M5 σ5 H5 G5 ⟨m', l, h5⟩ ok5 e5 sl5 => ⟨m', l, G5, M5, δ5, ok5, ex.trans e5, sl5, h5⟩, fun d M v H G' h ok s => eo.rt d M v H G' h ok (ex.trans s), fun δ5 M5 σ5 H5 G5 h5 ok5 e5 sl5 => eo.nx _ _ _ _ _ h5 ok5 (ex.trans e5) sl5,
        fun δ5 M5 σ5 H5 G5 ⟨m', l, h5⟩ ok5 e5 sl5 => ⟨m', l, G5, M5, δ5, ok5, ex.trans e5, sl5, h5⟩, eo.xc.mono ex⟩
end
end DL

/-! The data layer: defs, calls, raise, try, the law's end -/
namespace DL
open PySem PySem.Spec PyProof.Rows L2

theorem okXN {P : Program} {w : World} {K : PySem.W.Frag} {mg : Str → Option Value} {base : Heap} {x qual : Str} {st : Stmt} {f : Addr} {fd : FuncData} {N ps : List Str} {k : Nat} {sp : Sp} (F : Fun K x qual st f fd) (S : FnScope N ps (defScope st)) (len : ∀ vs H Q E, sp vs H Q E → vs.length = ps.length)
    (hbody : ∀ (cdv : Value) (A : Around) (outer : List Env) (s : Shared) (H : Hp) (vs : List V) (Q : VK) (E : XK), Room k (A.deeper (envOfC qual (defScope st) s.heap.objs.size f cdv)) → sp vs H Q E →
      ∃ t, PSs (cxOf (L2N.CX P w) P w K mg base N qual (defScope st) f cdv A outer s H E) (defBody st) t ∧ t { nx := fun _ H' => Q .non H', rt := Q } (L2.start N vs) H) : FnOk P w K mg base (L2N.CX P w) (k + 1) f fd ps sp := by
  obtain ⟨oc, od, kV, doc, pm, an, cdv, ct, osl, rfl, lk, hcd⟩ := F.ex
  exact fn_of lk hcd S len fun A outer s H vs Q E hr hsp => hbody cdv A outer s H vs Q E hr hsp
/-! ### promises over data -/
abbrev FDm := List D → Mem → QD → (Addr → Mem → Prop) → Prop
def spD (K : PySem.W.Frag) (m : FDm) : Sp := fun vs H Q E => ∃ (G : Hp) (M : Mem) (ds : List D) (Q' : QD) (X' : Addr → Mem → Prop), Ok K H G M ∧ RepL K G vs ds ∧ m ds M Q' X' ∧
  (∀ d M' v H' G', Q' d M' → Ok K H' G' M' → Same G G' → Rep K G' v d → Q v H') ∧ (∀ cls M' H' G', X' cls M' → Ok K H' G' M' → Same G G' → E (.ref cls) none H')
abbrev FnD (P : Program) (w : World) (K : PySem.W.Frag) (mg : Str → Option Value) (base : Heap) (k : Nat) (f : Addr) (fd : FuncData) (ps : List Str) (m : FDm) : Prop := FnOk P w K mg base (L2N.CX P w) k f fd ps (spD K m)
/-- what stands at the end of a def: what may change and is not the caller's is forgotten -/
def retD (Q : QD) : QD := fun d M1 => ∃ M2 : Mem, M2.Sub M1 ∧ Q d M2
def retX (X : Addr → Mem → Prop) : XD := fun cls _ M1 => ∃ M2 : Mem, M2.Sub M1 ∧ X cls M2
def startD : Nat → List D → DS
  | 0, _ => []
  | n + 1, [] => none :: startD n []
  | n + 1, d :: r => some d :: startD n r
abbrev bodyE (Q : QD) (X : Addr → Mem → Prop) : DEnds := { nx := fun _ M1 => retD Q .non M1, rt := retD Q, xc := retX X }
theorem start_slots {K : PySem.W.Frag} {G : Hp} : ∀ {vs : List V} {ds : List D} (n : Nat), RepL K G vs ds → vs.length ≤ n → Slots K G (vs.map some ++ List.replicate (n - vs.length) none) (startD n ds)
  | _, _, 0, .nil, _ => .nil
  | _, _, n + 1, .nil, _ => .cons .no (start_slots n .nil (Nat.zero_le _))
  | _, _, 0, .cons _ _, h => absurd h (by simp)
  | v :: vs, d :: ds, n + 1, .cons r t, h => by
    have e : (n + 1) - (v :: vs).length = n - vs.length := by rw [List.length_cons]; omega
    rw [e]
    exact .cons (.yes r) (start_slots n t (by rw [List.length_cons] at h; omega))
section
variable {P : Program} {w : World} {K : PySem.W.Frag} {mg : Str → Option Value} {base : Heap}
abbrev WE0 (E : XK) : WX := fun c d _ H => E c d H
/-- THE RULE for a def over data -/
theorem okD {x qual : Str} {st : Stmt} {f : Addr} {fd : FuncData} {N ps : List Str} {k : Nat} {m : FDm} {t : DSt} (F : Fun K x qual st f fd) (S : FnScope N ps (defScope st)) (len : ∀ ds M Q X, m ds M Q X → ds.length = ps.length) (hn : ps.length ≤ N.length)
    (der : ∀ (cdv : Value) (A : Around) (outer : List Env) (s : Shared) (H : Hp) (E : XK), Room k (A.deeper (envOfC qual (defScope st) s.heap.objs.size f cdv)) →
      PDSs (cxOf (L2N.CX P w) P w K mg base N qual (defScope st) f cdv A outer s H E) (WE0 E) (defBody st) t)
    (read : ∀ ds M Q X, m ds M Q X → t (bodyE Q X) (startD N.length ds) M) : FnD P w K mg base (k + 1) f fd ps m := by
  refine okXN F S (fun vs H Q E ⟨G, M, ds, Q', X', ok, r, h, _, _⟩ => by rw [r.len]; exact len _ _ _ _ h) fun cdv A outer s H vs Q E hr ⟨G, M, ds, Q', X', ok, r, h, hq, hx⟩ => ?_
  refine ⟨_, der cdv A outer s H E hr, G, M, startD N.length ds, _, ok, ?_, read ds M Q' X' h, ?_⟩
  · have hl := r.len
    rw [len _ _ _ _ h] at hl
    exact start_slots N.length r (by rw [hl]; exact hn)
  · refine ⟨fun δ M1 σ H1 G1 ⟨M2, s2, q⟩ ok1 e1 sl1 => hq .non M2 .non H1 G1 q (ok1.weak s2) e1 .non, fun d M1 v H1 G1 ⟨M2, s2, q⟩ ok1 e1 r1 => hq d M2 v H1 G1 q (ok1.weak s2) e1 r1, fun _ _ _ _ _ z => z.elim, fun _ _ _ _ _ z => z.elim, fun cls δ M1 σ H1 G1 ⟨M2, s2, q⟩ ok1 e1 sl1 => hx cls M2 H1 G1 q (ok1.weak s2) e1⟩
end

/-! ### calls of defs -/
def dFn (m : FDm) (t : DA) : DE := fun δ M Q X => t δ M (fun ds M1 => m ds M1 Q fun cls M' => X cls δ M') X
def insIs (C : Addr) (f : Str) (x : D) (M : Mem) : Prop := match x with
  | .obj a => elI C (M a) fun fs => look fs f = none
  | _ => False
def dMth (C : Addr) (f : Str) (m : FDm) (to : DE) (t : DA) : DE := fun δ M Q X => to δ M (fun x M1 => insIs C f x M1 ∧ t δ M1 (fun ds M2 => m (x :: ds) M2 Q fun cls M' => X cls δ M') X) X
def dMk (C : Addr) (m : FDm) (t : DA) : DE := fun δ M Q X => t δ M (fun ds M1 => ∀ x, M1 x = none → m (.obj x :: ds) (M1.set x (.ins C [])) (fun d M2 => isN d = true ∧ Q (.obj x) M2) fun cls M' => X cls δ M') X
section
variable {X : Cx} {W : WX} {CXx : CXT} {k : Nat} {f C : Addr} {fd : FuncData} {ps : List Str} {m : FDm} {sp : Sp} {E : L2.St → XK} {x n : Str} {p pos apos : Pos} {e o : Expr} {es : List Expr} {to : DE} {t : DA}
theorem pd_call (tk : L2N.Takes X W) (F : FnD X.prog X.w X.K X.mg X.base k f fd ps m) (hr : Room k X.A) (hg : Gl X x) (hm : X.mg x = some (.ref f)) (hk : PySem.W.keepIn X.K (.ref f) = true) (hb : Binds X.K fd ps [])
    (ha : PDA X W (e :: es) t) (hdb : (x == ("__debug__" : Str)) = false := by decide) (he : starEach (e :: es) X.env = (false, eval e X.env) :: starEach es X.env := by rfl) (hpl : (backTo pos (starEach es X.env)).any (·.1) = false := by rfl) :
    PD X W (.Call (.Name x p) (e :: es) [] pos) (dFn m t) :=
  PEw (pe_callS F hr hg hm hk hb (fun σ => L2N.passAt tk σ) ha hdb he hpl) fun σ H Q ⟨G, M, δ, Q', X', ok, sl, h, hq, hx⟩ => ⟨G, M, δ, _, X', ok, sl, h, fun ds M1 vs H1 G1 h1 ok1 e1 r1 =>
    ⟨G1, M1, ds, Q', _, ok1, r1, h1, fun d M2 v H2 G2 h2 ok2 e2 r2 => hq _ _ _ _ _ h2 ok2 (e1.trans e2) r2, fun cls M2 H2 G2 h2 ok2 e2 => hx _ _ _ _ _ _ h2 ok2 (e1.trans e2) (sl.mono (e1.trans e2))⟩, hx⟩
theorem pd_call0 (tk : L2N.Takes X W) (F : FnD X.prog X.w X.K X.mg X.base k f fd ps m) (hr : Room k X.A) (hg : Gl X x) (hm : X.mg x = some (.ref f)) (hk : PySem.W.keepIn X.K (.ref f) = true) (hb : Binds X.K fd ps [])
    (hdb : (x == ("__debug__" : Str)) = false := by decide) : PD X W (.Call (.Name x p) [] [] pos) (dFn m dNil) := by
  refine ⟨fun pins s σ H Q I ⟨G, M, δ, Q', X', ok, sl, h, hq, hx⟩ => ?_⟩
  refine wpAny_Call_Name_kw (ld_glob I hg hm ?_ hdb)
  refine PySem.W.callWith_K0 I.kIn hk (run_fnS (E := fun σ => WE W σ) (us := []) F hr hb (L2N.passAt tk σ) I .nil ?_)
  exact ⟨G, M, [], Q', _, ok, .nil, h, hq, fun cls M2 H2 G2 h2 ok2 e2 => hx _ _ _ _ _ _ h2 ok2 e2 (sl.mono e2)⟩
/-- o.m(e, ..), what is raised wished for at the slots -/
def tMethX (C : Addr) (m : Str) (sp : Sp) (E : L2.St → XK) (ta : TE) (t : TA) : TE := fun σ H Q => ta σ H fun x H1 => ∃ a dx fs, x = .ref a ∧ H1 a = some (.ins C dx fs) ∧ fs.lookup m = none ∧ t σ H1 fun vs H2 => sp (x :: vs) H2 Q (E σ)
theorem pe_methX {pl : Sem Bool} {ta : TE} {t : TA} (he : PE X o ta) (c : Cls X.K C) (hm : Meth X.K C n f) (F : FnOk X.prog X.w X.K X.mg X.base CXx k f fd ps sp) (hr : Room k X.A) (hb : Binds X.K fd ps []) (hx : ∀ σ, PassesAt CXx X σ (E σ)) (ha : PA X (e :: es) t)
    (hst : starEach (e :: es) X.env = (false, eval e X.env) :: starEach es X.env := by rfl) (hpl : (backTo pos (starEach es X.env)).any (·.1) = false := by rfl)
    (ht : eval (.Call (.Attribute o n apos) (e :: es) [] pos) X.env = (do
      let ov ← eval o X.env
      standAt apos.atName
      let (f, first) ← holding [ov] (getMethod ov n pl)
      callWith pos f first (backTo pos (starEach (e :: es) X.env)) (backToKw pos (keywordEach [] X.env))) := by rfl) :
    PE X (.Call (.Attribute o n apos) (e :: es) [] pos) (tMethX C n sp E ta t) := by
  refine ⟨fun pins s σ H Q I h => ?_⟩
  refine PySem.W.methodCall_KW (pl := pl) (thn (he.run pins s σ H _ I h) fun u s1 ⟨x, H1, I1, rx, a, dx, fs, ex, ea, l, q⟩ => ?_) ht
  subst ex
  obtain rfl : u = Value.ref a := rx
  refine getmeth_ok I1 ea c hm l ?_
  refine PySem.W.callWith_K (first := [.ref a]) (h₀ := X.base) I.ok.mod.kin hm.kp (thn (ha.run pos pins s1 σ H1 _ I1 q) fun us s2 ⟨vs, H2, I2, r, q2⟩ => ⟨I2.kIn, ?_⟩) hst hpl
  exact run_fnS (us := .ref a :: us) (vs := .ref a :: vs) F hr hb (hx σ) I2 (.cons rfl r) q2
theorem pe_methX0 {pl : Sem Bool} {ta : TE} (he : PE X o ta) (c : Cls X.K C) (hm : Meth X.K C n f) (F : FnOk X.prog X.w X.K X.mg X.base CXx k f fd ps sp) (hr : Room k X.A) (hb : Binds X.K fd ps []) (hx : ∀ σ, PassesAt CXx X σ (E σ))
    (ht : eval (.Call (.Attribute o n apos) [] [] pos) X.env = (do
      let ov ← eval o X.env
      standAt apos.atName
      let (f, first) ← holding [ov] (getMethod ov n pl)
      callWith pos f first (backTo pos (starEach [] X.env)) (backToKw pos (keywordEach [] X.env))) := by rfl) :
    PE X (.Call (.Attribute o n apos) [] [] pos) (tMethX C n sp E ta tNil) := by
  refine ⟨fun pins s σ H Q I h => ?_⟩
  refine PySem.W.methodCall_KW (pl := pl) (thn (he.run pins s σ H _ I h) fun u s1 ⟨x, H1, I1, rx, a, dx, fs, ex, ea, l, q⟩ => ?_) ht
  subst ex
  obtain rfl : u = Value.ref a := rx
  refine getmeth_ok I1 ea c hm l ?_
  exact PySem.W.callWith_K0 (first := [.ref a]) I1.kIn hm.kp (run_fnS (us := [.ref a]) (vs := [.ref a]) F hr hb (hx σ) I1 (.cons rfl .nil) q)
theorem ins_of {K : PySem.W.Frag} {H G : Hp} {M : Mem} {v : V} {d : D} (ok : Ok K H G M) (r : Rep K G v d) (h : insIs C n d M) : ∃ a dx fs, v = .ref a ∧ d = .obj a ∧ H a = some (.ins C dx fs) ∧ fs.lookup n = none := by
  unfold insIs at h
  split at h
  · obtain ⟨fs, m, l⟩ := elI_of h
    obtain ⟨g, dx, fv, hH, k, q⟩ := ok.mem _ _ m
    cases r
    exact ⟨_, dx, fv, rfl, rfl, hH, look_flds_none k l⟩
  · exact h.elim
theorem pd_meth {pl : Sem Bool} (tk : L2N.Takes X W) (he : PD X W o to) (c : Cls X.K C) (hm : Meth X.K C n f) (F : FnD X.prog X.w X.K X.mg X.base k f fd ps m) (hr : Room k X.A) (hb : Binds X.K fd ps []) (ha : PDA X W (e :: es) t)
    (hst : starEach (e :: es) X.env = (false, eval e X.env) :: starEach es X.env := by rfl) (hpl : (backTo pos (starEach es X.env)).any (·.1) = false := by rfl)
    (ht : eval (.Call (.Attribute o n apos) (e :: es) [] pos) X.env = (do
      let ov ← eval o X.env
      standAt apos.atName
      let (f, first) ← holding [ov] (getMethod ov n pl)
      callWith pos f first (backTo pos (starEach (e :: es) X.env)) (backToKw pos (keywordEach [] X.env))) := by rfl) :
    PD X W (.Call (.Attribute o n apos) (e :: es) [] pos) (dMth C n m to t) :=
  PEw (pe_methX (pl := pl) (E := fun σ => WE W σ) he c hm F hr hb (fun σ => L2N.passAt tk σ) ha hst hpl ht) fun σ H Q ⟨G, M, δ, Q', X', ok, sl, h, hq, hx⟩ => ⟨G, M, δ, _, X', ok, sl, h, fun d M1 v H1 G1 h1 ok1 e1 r1 => by
    obtain ⟨hi, h1⟩ := h1
    obtain ⟨a, dx, fs, ev, ed, hH, l⟩ := ins_of ok1 r1 hi
    refine ⟨a, dx, fs, ev, hH, l, G1, M1, δ, _, X', ok1, sl.mono e1, h1, fun ds M2 vs H2 G2 h2 ok2 e2 r2 => ?_, hx.mono e1⟩
    exact ⟨G2, M2, d :: ds, Q', _, ok2, .cons (r1.mono e2) r2, h2, fun d M3 v H3 G3 h3 ok3 e3 r3 => hq _ _ _ _ _ h3 ok3 (e1.trans (e2.trans e3)) r3, fun cls M3 H3 G3 h3 ok3 e3 => hx _ _ _ _ _ _ h3 ok3 (e1.trans (e2.trans e3)) (sl.mono (e1.trans (e2.trans e3)))⟩, hx⟩
theorem pd_meth0 {pl : Sem Bool} (tk : L2N.Takes X W) (he : PD X W o to) (c : Cls X.K C) (hm : Meth X.K C n f) (F : FnD X.prog X.w X.K X.mg X.base k f fd ps m) (hr : Room k X.A) (hb : Binds X.K fd ps [])
    (ht : eval (.Call (.Attribute o n apos) [] [] pos) X.env = (do
      let ov ← eval o X.env
      standAt apos.atName
      let (f, first) ← holding [ov] (getMethod ov n pl)
      callWith pos f first (backTo pos (starEach [] X.env)) (backToKw pos (keywordEach [] X.env))) := by rfl) :
    PD X W (.Call (.Attribute o n apos) [] [] pos) (dMth C n m to dNil) :=
  PEw (pe_methX0 (pl := pl) (E := fun σ => WE W σ) he c hm F hr hb (fun σ => L2N.passAt tk σ) ht) fun σ H Q ⟨G, M, δ, Q', X', ok, sl, h, hq, hx⟩ => ⟨G, M, δ, _, X', ok, sl, h, fun d M1 v H1 G1 h1 ok1 e1 r1 => by
    obtain ⟨hi, h1⟩ := h1
    obtain ⟨a, dx, fs, ev, ed, hH, l⟩ := ins_of ok1 r1 hi
    refine ⟨a, dx, fs, ev, hH, l, ?_⟩
    exact ⟨G1, M1, [d], Q', _, ok1, .one r1, h1, fun d M3 v H3 G3 h3 ok3 e3 r3 => hq _ _ _ _ _ h3 ok3 (e1.trans e3) r3, fun cls M3 H3 G3 h3 ok3 e3 => hx _ _ _ _ _ _ h3 ok3 (e1.trans e3) (sl.mono (e1.trans e3))⟩, hx⟩
/-- C(e, ..) -/
def tMakeX (C : Addr) (sp : Sp) (E : L2.St → XK) (t : TA) : TE := fun σ H Q => t σ H fun vs H1 => ∀ x dx, H1 x = none → H1 dx = none → dx ≠ x → sp (.ref x :: vs) (upd (upd H1 dx (.own x)) x (.ins C dx [])) (fun v H2 => v = .non ∧ Q (.ref x) H2) (E σ)
theorem pe_makeX {t : TA} (M : Mk X.K C f) (F : FnOk X.prog X.w X.K X.mg X.base CXx k f fd ps sp) (hr : Room (k + 1) X.A) (hg : Gl X x) (hm : X.mg x = some (.ref C)) (hb : Binds X.K fd ps []) (hx : ∀ σ, PassesAt CXx X σ (E σ))
    (ha : PA X (e :: es) t) (hdb : (x == ("__debug__" : Str)) = false := by decide) (he : starEach (e :: es) X.env = (false, eval e X.env) :: starEach es X.env := by rfl) (hpl : (backTo pos (starEach es X.env)).any (·.1) = false := by rfl) :
    PE X (.Call (.Name x p) (e :: es) [] pos) (tMakeX C sp E t) := by
  refine ⟨fun pins s σ H Q I h => ?_⟩
  refine wpAny_Call_Name_kw (ld_glob I hg hm ?_ hdb)
  refine PySem.W.callWith_K (h₀ := X.base) I.ok.mod.kin M.kp (thn (ha.run pos pins s σ H _ I h) fun us s1 ⟨vs, H1, I1, r, q⟩ => ⟨I1.kIn, ?_⟩) he hpl
  have hq := q (s1.heap.objs.size + 1) s1.heap.objs.size (I1.hok.fresh (Nat.le_succ _)) (I1.hok.fresh (Nat.le_refl _)) (Nat.ne_of_lt (Nat.lt_succ_self _))
  have I2 := Inv.made (C := C) I1
  have r2 : Vals (V.ref (s1.heap.objs.size + 1) :: vs) (Value.ref (s1.heap.objs.size + 1) :: us) := .cons rfl r
  have hl : (Value.ref (s1.heap.objs.size + 1) :: us).length = ps.length := by
    have e := r2.length
    rw [F.len _ _ _ _ hq] at e
    exact e.symm
  have b := hb { s1 with heap := (s1.heap.push PySem.W.emptyDict).push (PySem.W.instObj C s1.heap.objs.size) } (Value.ref (s1.heap.objs.size + 1) :: us) I2.kIn (by rw [List.append_nil]; exact hl)
  rw [List.append_nil] at b
  refine wpAny_call (make_map (f := f) I1.kIn M.makes M.init (beq_iff_eq.mp M.fn) (codeAny_mono (F.run _ X.stack _ _ ⟨Value.ref (s1.heap.objs.size + 1) :: us, []⟩ (Value.ref (s1.heap.objs.size + 1) :: us) _ _ (E σ) (hr.make C us [])
    (I2.env0.make C us []) b r2 hq) fun r s' hq' => ?_))
  cases r with
  | error e => exact hx σ pins _ _ e s' I2 hq'
  | ok fl =>
    cases fl with
    | ret u =>
      obtain ⟨v, H', I3, rv, ev, q3⟩ := I2.after hq'
      subst ev
      exact ⟨rv, ⟨V.ref (s1.heap.objs.size + 1), H', I3, rfl, q3⟩⟩
    | next => exact False.elim hq'
    | brk => exact False.elim hq'
    | cont => exact False.elim hq'
theorem pd_make (tk : L2N.Takes X W) (Mk' : Mk X.K C f) (F : FnD X.prog X.w X.K X.mg X.base k f fd ps m) (hr : Room (k + 1) X.A) (hg : Gl X x) (hm : X.mg x = some (.ref C)) (hb : Binds X.K fd ps [])
    (ha : PDA X W (e :: es) t) (hdb : (x == ("__debug__" : Str)) = false := by decide) (he : starEach (e :: es) X.env = (false, eval e X.env) :: starEach es X.env := by rfl) (hpl : (backTo pos (starEach es X.env)).any (·.1) = false := by rfl) :
    PD X W (.Call (.Name x p) (e :: es) [] pos) (dMk C m t) :=
  PEw (pe_makeX (E := fun σ => WE W σ) Mk' F hr hg hm hb (fun σ => L2N.passAt tk σ) ha hdb he hpl) fun σ H Q ⟨G, M, δ, Q', X', ok, sl, h, hq, hx⟩ => ⟨G, M, δ, _, X', ok, sl, h, fun ds M1 vs H1 G1 h1 ok1 e1 r1 => fun x dx hx0 hd0 hne => by
    have okd := ok1.extra (o := .own x) hd0
    have hx1 : (upd H1 dx (.own x)) x = none := by rw [upd_ne (Ne.symm hne)]; exact hx0
    have gx := okd.gnone hx1
    refine ⟨G1, M1.set x (.ins C []), .obj x :: ds, _, _, okd.write (m := .ins C []) gx ⟨dx, [], upd_same, rfl, .nil⟩, .cons (.obj x) r1, h1 x (ok1.mnone hx0), fun d M2 v H2 G2 h2 ok2 e2 r2 => ?_, fun cls M2 H2 G2 h2 ok2 e2 => hx _ _ _ _ _ _ h2 ok2 (e1.trans e2) (sl.mono (e1.trans e2))⟩
    obtain ⟨hn, h3⟩ := h2
    have ev : v = .non := by
      cases r2 <;> first | rfl | cases hn
    exact ⟨ev, hq _ _ _ _ _ h3 ok2 (e1.trans e2) (.obj x)⟩, hx⟩
end

/-! ### raise, try -/
def dTry (K : PySem.W.Frag) (c : Value) (t u : DSt) : DSt := fun E δ M => t { E with xc := fun cls δ' M' => PySem.W.exmOne K (.ref cls) c = some true ∧ u { E with xc := fun _ _ _ => False } δ' M' } δ M
section
variable {X : Cx} {W : WX} {C : Addr} {x m : Str} {j : Nat} {p p2 pos pos2 np pos' : Pos} {B newId initId : String} {bmB : List Value}
theorem pds_raise (tk : L2N.Takes X W) (hc : X.calm = true) (F : ExcBaseFacts B newId initId bmB) (q : PySem.W.excIn X.K C bmB newId = true) (gC : X.mg x = some (.ref C)) (kC : PySem.W.keepIn X.K (.ref C) = true) (r : Raises X (.ref C)) (hg : Gl X x)
    (hdb : (x == ("__debug__" : Str)) = false := by decide) : PDS X W (.Raise (some (.Call (.Name x p) [.Constant (.str m) j p2] [] pos)) none pos2) (dRaise C) :=
  PSw (L2N.ps_raise hc tk (L2N.pmk_own F q gC kC r hg hdb)) fun D σ H ⟨G, M, δ, E, ok, sl, h, eo⟩ => eo.xc _ _ _ _ _ _ h ok (Same.refl _) sl
theorem pds_try {c : Value} {body suite : List Stmt} {b₀ : Stmt} {t u : DSt} (hs : X.stack = X.env :: X.outer) (hf : X.env.frame = some X.env.locals) (hc : Names X x c) (tk : L2N.Takes X W)
    (hb : ∀ (W' : WX) (pn : List (Addr × Obj)) (xe : Value → Shared → Prop), L2N.Takes (X.tr pn xe) W' → PassesOwn (model X.prog X.w) X.A X.env xe → PDSs (X.tr pn xe) W' body t)
    (hsu : ∀ (a : Addr) (oe : Obj) (cls : Value) (d : Option Addr) (pn : List (Addr × Obj)), L2N.Zn cls d oe → (∃ vs, oe.data = .fields vs) → PDSs (X.suite a ((a, oe) :: pn)) W0 (b₀ :: suite) u) :
    PDS X W (.Try body [.ExceptHandler (some (.Name x np)) none (b₀ :: suite) pos'] [] [] pos) (dTry X.K c t u) :=
  PSw (L2N.ps_try_many (tb := fun W' => upS X.K W' t) (l := [(c, fun _ _ _ => upS X.K W0 u)]) hs hf tk hb (.cons hc hsu .nil)) fun D σ H ⟨G, M, δ, E, ok, sl, h, eo⟩ =>
    ⟨G, M, δ, _, ok, sl, h, ⟨eo.nx, eo.rt, eo.bk, eo.ct, fun cls δ' M' σ' H' G' ⟨hx, hu⟩ ok' e' sl' => ⟨true, hx, fun _ a ha => ⟨G', M', δ', _, ok', sl', hu, ⟨(eo.mono e').nx, (eo.mono e').rt, (eo.mono e').bk, (eo.mono e').ct, WOk.bot⟩⟩, fun z => nomatch z⟩⟩⟩
end

/-! ### the law's end -/
/-- the law: of a script handed in it gives True -/
def mLaw : FDm := fun ds M Q _ => ∃ ns : List Int, ds = [.scr ns] ∧ ns.length ≤ 63 ∧ ∀ M', Q (.bl true) M'
theorem walkD {l : PySem.W.OpenLaw} {k : Nat} {q : Program} {loose : List Str} {XP : (Str → Option Value) → Heap → Prop} {YP : World → Heap → Prop} {d : DefRec} {K : Params → PySem.W.Frag} {x : Str} (hn : l.most = some 63) (hdf : d.params.defaults = []) (hr : Room k callerA)
    (hY : ∀ (w : World) (h : Heap), YP w h → (K w.params).In h)
    (F : ∀ (w : World) (mg : Str → Option Value) (fa : Addr) (h : Heap), (K w.params).In h → h.Ns mainGlobals mg → mg d.name = some (.ref fa) →
      ∃ fd : FuncData, (∀ (s : Shared) (u : Value), BindsTo s fd ⟨[u], []⟩ [(x, u)]) ∧ ∀ base : Heap, (K w.params).In base → base.Ns mainGlobals mg → FnD l.prog w (K w.params) mg base k fa fd [x] mLaw) :
    PySem.W.WalkO q loose XP YP l.row.toRowW d [] (fun f vs => PySem.call f vs) :=
  L2.walk_of (n := 63) (CX := fun w => L2N.CX l.prog w) (sp := fun w => spD (K w.params) mLaw) hn (by rw [sizeLine_eq]; decide) hdf hr hY F (fun w H a ns hl _ hS => ⟨H, fun _ => none, [.scr ns], fun d _ => d = .bl true, fun _ _ => False, ⟨Same.refl _, fun _ _ z => nomatch z⟩, .one (.scr hS), ⟨ns, rfl, hl, fun M' => rfl⟩, fun d M' v H' G' (e : d = .bl true) ok s r => by subst e; cases r; rfl, fun _ _ _ _ z => z.elim⟩) fun w H s e s' z => by
    obtain ⟨_, _, _, _, _, _, _, _, _, _, _, _, z⟩ := z
    exact z.elim
end DL

/-! The data layer: a def by what the program's top has made of it; addresses; small lemmas for readings -/
namespace DL
open PySem PySem.Spec PyProof.Rows L2

section
variable (P : Program) (w : World) (K : PySem.W.Frag) (mg : Str → Option Value) (base : Heap)
def Has (x : Str) (ps : List Str) (k : Nat) (m : FDm) : Prop := ∃ (f : Addr) (fd : FuncData), mg x = some (.ref f) ∧ PySem.W.keepIn K (.ref f) = true ∧ Binds K fd ps [] ∧ FnD P w K mg base k f fd ps m
def HasM (C : Addr) (n : Str) (ps : List Str) (k : Nat) (m : FDm) : Prop := ∃ (f : Addr) (fd : FuncData), Meth K C n f ∧ Binds K fd ps [] ∧ FnD P w K mg base k f fd ps m
def HasI (C : Addr) (ps : List Str) (k : Nat) (m : FDm) : Prop := ∃ (f : Addr) (fd : FuncData), Mk K C f ∧ Binds K fd ps [] ∧ FnD P w K mg base k f fd ps m
end
section
variable {X : Cx} {W : WX} {k : Nat} {C : Addr} {ps : List Str} {m : FDm} {x n : Str} {p pos apos : Pos} {e o : Expr} {es : List Expr} {to : DE} {t : DA}
theorem pd_callH (tk : L2N.Takes X W) (F : Has X.prog X.w X.K X.mg X.base x ps k m) (hr : Room k X.A) (hg : Gl X x)
    (ha : PDA X W (e :: es) t) (hdb : (x == ("__debug__" : Str)) = false := by decide) (he : starEach (e :: es) X.env = (false, eval e X.env) :: starEach es X.env := by rfl) (hpl : (backTo pos (starEach es X.env)).any (·.1) = false := by rfl) :
    PD X W (.Call (.Name x p) (e :: es) [] pos) (dFn m t) := let ⟨f, fd, hm, hk, hb, F⟩ := F; pd_call tk F hr hg hm hk hb ha hdb he hpl
theorem pd_call0H (tk : L2N.Takes X W) (F : Has X.prog X.w X.K X.mg X.base x ps k m) (hr : Room k X.A) (hg : Gl X x) (hdb : (x == ("__debug__" : Str)) = false := by decide) : PD X W (.Call (.Name x p) [] [] pos) (dFn m dNil) :=
  let ⟨f, fd, hm, hk, hb, F⟩ := F; pd_call0 tk F hr hg hm hk hb hdb
theorem pd_methH {pl : Sem Bool} (tk : L2N.Takes X W) (he : PD X W o to) (c : Cls X.K C) (F : HasM X.prog X.w X.K X.mg X.base C n ps k m) (hr : Room k X.A) (ha : PDA X W (e :: es) t)
    (hst : starEach (e :: es) X.env = (false, eval e X.env) :: starEach es X.env := by rfl) (hpl : (backTo pos (starEach es X.env)).any (·.1) = false := by rfl)
    (ht : eval (.Call (.Attribute o n apos) (e :: es) [] pos) X.env = (do
      let ov ← eval o X.env
      standAt apos.atName
      let (f, first) ← holding [ov] (getMethod ov n pl)
      callWith pos f first (backTo pos (starEach (e :: es) X.env)) (backToKw pos (keywordEach [] X.env))) := by rfl) :
    PD X W (.Call (.Attribute o n apos) (e :: es) [] pos) (dMth C n m to t) := let ⟨f, fd, hm, hb, F⟩ := F; pd_meth (pl := pl) tk he c hm F hr hb ha hst hpl ht
theorem pd_meth0H {pl : Sem Bool} (tk : L2N.Takes X W) (he : PD X W o to) (c : Cls X.K C) (F : HasM X.prog X.w X.K X.mg X.base C n ps k m) (hr : Room k X.A)
    (ht : eval (.Call (.Attribute o n apos) [] [] pos) X.env = (do
      let ov ← eval o X.env
      standAt apos.atName
      let (f, first) ← holding [ov] (getMethod ov n pl)
      callWith pos f first (backTo pos (starEach [] X.env)) (backToKw pos (keywordEach [] X.env))) := by rfl) :
    PD X W (.Call (.Attribute o n apos) [] [] pos) (dMth C n m to dNil) := let ⟨f, fd, hm, hb, F⟩ := F; pd_meth0 (pl := pl) tk he c hm F hr hb ht
theorem pd_makeH (tk : L2N.Takes X W) (F : HasI X.prog X.w X.K X.mg X.base C ps k m) (hr : Room (k + 1) X.A) (hg : Gl X x) (hm : X.mg x = some (.ref C))
    (ha : PDA X W (e :: es) t) (hdb : (x == ("__debug__" : Str)) = false := by decide) (he : starEach (e :: es) X.env = (false, eval e X.env) :: starEach es X.env := by rfl) (hpl : (backTo pos (starEach es X.env)).any (·.1) = false := by rfl) :
    PD X W (.Call (.Name x p) (e :: es) [] pos) (dMk C m t) := let ⟨f, fd, hM, hb, F⟩ := F; pd_make tk hM F hr hg hm hb ha hdb he hpl
/-- a + b, a list that may change -/
def oAddM (x y : D) (M : Mem) (Q : QD) : Prop := match res M x, res M y with
  | .lst a, .lst b => a.length + b.length ≤ sizeLine ∧ ∀ p, M p = none → Q (.obj p) (M.set p (.lst (a ++ b)))
  | _, _ => False
theorem l_addM {K : PySem.W.Frag} : LOp K rCat oAddM := by
  intro x y H G M dx dy Q Q' ok rx ry h hq
  unfold oAddM at h
  split at h
  · rename_i as bs e1 e2
    obtain ⟨p1, v1, f1, h1, q1, z1⟩ := rx.lstOf ok e1
    obtain ⟨p2, v2, f2, h2, q2, z2⟩ := ry.lstOf ok e2
    refine ⟨p1, p2, v1, v2, f1, f2, h1, h2, by rw [q1.len, q2.len]; exact h.1, fun p hp => ?_⟩
    have gp := ok.gnone hp
    exact hq _ _ _ _ _ (h.2 p (ok.mnone hp)) (ok.write (m := .lst _) gp ⟨_, upd_same, q1.append q2, by rw [List.length_append]; exact h.1⟩) (Same.refl _) (.obj p)
  · exact h.elim
theorem pd_addM {a b : Expr} {ta tb : DE} (ha : PD X W a ta) (hb : PD X W b tb) : PD X W (.BinOp a .Add b pos) (dOp oAddM ta tb) := pd_op op_cat l_addM ha hb
end

theorem pd_globE {X : Cx} {W : WX} {x : Str} {v : V} {d : D} {pos : Pos} (hg : Gl X x) (h : ∃ u, X.mg x = some u ∧ RelV v u) (q : ∀ G, Rep X.K G v d) (hd : (x == ("__debug__" : Str)) = false := by decide) : PD X W (.Name x pos) (dC d) :=
  let ⟨_, hm, r⟩ := h; pd_glob hg hm r q hd
/-- where the classes stand -/
structure Adr where
  Room : Addr
  RoomError : Addr
  BadName : Addr
  BadWish : Addr
  BadNumber : Addr
  Known : Addr
  Stranger : Addr
  Outside : Addr
  Inside : Addr
  Reads : Addr
  Writes : Addr
  Asked : Addr
  BadText : Addr
  BadJournal : Addr

/-! readings by what is known: all by definition -/
theorem res_non {M : Mem}  : res M .non = .non := rfl
theorem res_bl {M : Mem} (b : Bool) : res M (.bl b) = (.bl b) := rfl
theorem res_int {M : Mem} (i : Int) : res M (.int i) = (.int i) := rfl
theorem res_str {M : Mem} (z : Str) : res M (.str z) = (.str z) := rfl
theorem res_lst {M : Mem} (xs : List D) : res M (.lst xs) = (.lst xs) := rfl
theorem res_tupE {M : Mem} (xs : List D) : res M (.tup xs) = (.tup xs) := rfl
theorem res_dic {M : Mem} (kvs : List (Str × D)) : res M (.dic kvs) = (.dic kvs) := rfl
theorem res_scr {M : Mem} (ns : List Int) : res M (.scr ns) = (.scr ns) := rfl
theorem res_ty {M : Mem} (n : String) : res M (.ty n) = (.ty n) := rfl
def addR (x y : D) (M : Mem) (Q : QD) : Prop := match x, y with
  | .int i, .int j => Q (.int (i + j)) M
  | .str a, .str b => a.length + b.length ≤ sizeLine ∧ Q (.str (a ++ b)) M
  | .lst a, .lst b => a.length + b.length ≤ sizeLine ∧ Q (.lst (a ++ b)) M
  | .tup a, .tup b => a.length + b.length ≤ sizeLine ∧ Q (.tup (a ++ b)) M
  | _, _ => False
theorem oAdd_eq {x y : D} {M : Mem} {Q : QD} : oAdd x y M Q = addR (res M x) (res M y) M Q := rfl
theorem addR_int {i j : Int} {M : Mem} {Q : QD} : addR (.int i) (.int j) M Q = Q (.int (i + j)) M := rfl
theorem addR_str {a b : Str} {M : Mem} {Q : QD} : addR (.str a) (.str b) M Q = (a.length + b.length ≤ sizeLine ∧ Q (.str (a ++ b)) M) := rfl
theorem addR_lst {a b : List D} {M : Mem} {Q : QD} : addR (.lst a) (.lst b) M Q = (a.length + b.length ≤ sizeLine ∧ Q (.lst (a ++ b)) M) := rfl
theorem addR_tup {a b : List D} {M : Mem} {Q : QD} : addR (.tup a) (.tup b) M Q = (a.length + b.length ≤ sizeLine ∧ Q (.tup (a ++ b)) M) := rfl
def addMR (x y : D) (M : Mem) (Q : QD) : Prop := match x, y with
  | .lst a, .lst b => a.length + b.length ≤ sizeLine ∧ ∀ p, M p = none → Q (.obj p) (M.set p (.lst (a ++ b)))
  | _, _ => False
theorem oAddM_eq {x y : D} {M : Mem} {Q : QD} : oAddM x y M Q = addMR (res M x) (res M y) M Q := rfl
theorem addMR_lst {a b : List D} {M : Mem} {Q : QD} : addMR (.lst a) (.lst b) M Q = (a.length + b.length ≤ sizeLine ∧ ∀ p, M p = none → Q (.obj p) (M.set p (.lst (a ++ b)))) := rfl
def intR (C : Int → Int → Prop) (g : Int → Int → D) (x y : D) (M : Mem) (Q : QD) : Prop := match x, y with
  | .int i, .int j => C i j ∧ Q (g i j) M
  | _, _ => False
def int0R (g : Int → Int → D) (x y : D) (M : Mem) (Q : QD) : Prop := match x, y with
  | .int i, .int j => Q (g i j) M
  | _, _ => False
def negR (x : D) (M : Mem) (Q : QD) : Prop := match x with
  | .int i => Q (.int (-i)) M
  | _ => False
theorem oInt_eq {C : Int → Int → Prop} {g : Int → Int → D} {x y : D} {M : Mem} {Q : QD} : oInt C g x y M Q = intR C g (res M x) (res M y) M Q := rfl
theorem intR_int {C : Int → Int → Prop} {g : Int → Int → D} {i j : Int} {M : Mem} {Q : QD} : intR C g (.int i) (.int j) M Q = (C i j ∧ Q (g i j) M) := rfl
theorem oInt0_eq {g : Int → Int → D} {x y : D} {M : Mem} {Q : QD} : oInt0 g x y M Q = int0R g (res M x) (res M y) M Q := rfl
theorem int0R_int {g : Int → Int → D} {i j : Int} {M : Mem} {Q : QD} : int0R g (.int i) (.int j) M Q = Q (g i j) M := rfl
theorem oNeg_eq {x : D} {M : Mem} {Q : QD} : oNeg x M Q = negR (res M x) M Q := rfl
theorem negR_int {i : Int} {M : Mem} {Q : QD} : negR (.int i) M Q = Q (.int (-i)) M := rfl
def eqR (neg : Bool) (o : Option Bool) (x y : D) (M : Mem) (Q : QD) : Prop := match o with
  | some b => Q (.bl (cond neg (!b) b)) M
  | none => flatN 9 x = true ∧ flatN 9 y = true ∧ Q (.bl (cond neg (!D.eqv x y) (D.eqv x y))) M
theorem oEqN_eq {neg : Bool} {x y : D} {M : Mem} {Q : QD} : oEqN neg x y M Q = eqR neg (eqS x y) (res M x) (res M y) M Q := rfl
theorem eqR_some {neg b : Bool} {x y : D} {M : Mem} {Q : QD} : eqR neg (some b) x y M Q = Q (.bl (cond neg (!b) b)) M := rfl
theorem eqR_none {neg : Bool} {x y : D} {M : Mem} {Q : QD} : eqR neg none x y M Q = (flatN 9 x = true ∧ flatN 9 y = true ∧ Q (.bl (cond neg (!D.eqv x y) (D.eqv x y))) M) := rfl
theorem eqS_non_non  : eqS .non .non = some true := rfl
theorem eqS_non_int {v : Int}  : eqS .non (.int v) = some false := rfl
theorem eqS_non_bl {v : Bool}  : eqS .non (.bl v) = some false := rfl
theorem eqS_non_str {v : Str}  : eqS .non (.str v) = some false := rfl
theorem eqS_non_lst {v : List D}  : eqS .non (.lst v) = none := rfl
theorem eqS_non_tup {v : List D}  : eqS .non (.tup v) = none := rfl
theorem eqS_int_non {u : Int}  : eqS (.int u) .non = some false := rfl
theorem eqS_int_int {u : Int} {v : Int}  : eqS (.int u) (.int v) = some (decide (u = v)) := rfl
theorem eqS_int_bl {u : Int} {v : Bool}  : eqS (.int u) (.bl v) = none := rfl
theorem eqS_int_str {u : Int} {v : Str}  : eqS (.int u) (.str v) = some false := rfl
theorem eqS_int_lst {u : Int} {v : List D}  : eqS (.int u) (.lst v) = none := rfl
theorem eqS_int_tup {u : Int} {v : List D}  : eqS (.int u) (.tup v) = none := rfl
theorem eqS_bl_non {u : Bool}  : eqS (.bl u) .non = some false := rfl
theorem eqS_bl_int {u : Bool} {v : Int}  : eqS (.bl u) (.int v) = none := rfl
theorem eqS_bl_bl {u : Bool} {v : Bool}  : eqS (.bl u) (.bl v) = some (decide (u = v)) := rfl
theorem eqS_bl_str {u : Bool} {v : Str}  : eqS (.bl u) (.str v) = some false := rfl
theorem eqS_bl_lst {u : Bool} {v : List D}  : eqS (.bl u) (.lst v) = none := rfl
theorem eqS_bl_tup {u : Bool} {v : List D}  : eqS (.bl u) (.tup v) = none := rfl
theorem eqS_str_non {u : Str}  : eqS (.str u) .non = some false := rfl
theorem eqS_str_int {u : Str} {v : Int}  : eqS (.str u) (.int v) = some false := rfl
theorem eqS_str_bl {u : Str} {v : Bool}  : eqS (.str u) (.bl v) = some false := rfl
theorem eqS_str_str {u : Str} {v : Str}  : eqS (.str u) (.str v) = some (decide (u = v)) := rfl
theorem eqS_str_lst {u : Str} {v : List D}  : eqS (.str u) (.lst v) = none := rfl
theorem eqS_str_tup {u : Str} {v : List D}  : eqS (.str u) (.tup v) = none := rfl
theorem eqS_lst_non {u : List D}  : eqS (.lst u) .non = none := rfl
theorem eqS_lst_int {u : List D} {v : Int}  : eqS (.lst u) (.int v) = none := rfl
theorem eqS_lst_bl {u : List D} {v : Bool}  : eqS (.lst u) (.bl v) = none := rfl
theorem eqS_lst_str {u : List D} {v : Str}  : eqS (.lst u) (.str v) = none := rfl
theorem eqS_lst_lst {u : List D} {v : List D}  : eqS (.lst u) (.lst v) = none := rfl
theorem eqS_lst_tup {u : List D} {v : List D}  : eqS (.lst u) (.tup v) = none := rfl
theorem eqS_tup_non {u : List D}  : eqS (.tup u) .non = none := rfl
theorem eqS_tup_int {u : List D} {v : Int}  : eqS (.tup u) (.int v) = none := rfl
theorem eqS_tup_bl {u : List D} {v : Bool}  : eqS (.tup u) (.bl v) = none := rfl
theorem eqS_tup_str {u : List D} {v : Str}  : eqS (.tup u) (.str v) = none := rfl
theorem eqS_tup_lst {u : List D} {v : List D}  : eqS (.tup u) (.lst v) = none := rfl
theorem eqS_tup_tup {u : List D} {v : List D}  : eqS (.tup u) (.tup v) = none := rfl
theorem eqS_obj_non {a : Addr}  : eqS (.obj a) .non = none := rfl
theorem eqS_non_obj {a : Addr}  : eqS .non (.obj a) = none := rfl
theorem eqS_obj_int {a : Addr} {v : Int}  : eqS (.obj a) (.int v) = none := rfl
theorem eqS_int_obj {a : Addr} {v : Int}  : eqS (.int v) (.obj a) = none := rfl
theorem eqS_obj_bl {a : Addr} {v : Bool}  : eqS (.obj a) (.bl v) = none := rfl
theorem eqS_bl_obj {a : Addr} {v : Bool}  : eqS (.bl v) (.obj a) = none := rfl
theorem eqS_obj_str {a : Addr} {v : Str}  : eqS (.obj a) (.str v) = none := rfl
theorem eqS_str_obj {a : Addr} {v : Str}  : eqS (.str v) (.obj a) = none := rfl
theorem eqS_obj_lst {a : Addr} {v : List D}  : eqS (.obj a) (.lst v) = none := rfl
theorem eqS_lst_obj {a : Addr} {v : List D}  : eqS (.lst v) (.obj a) = none := rfl
theorem eqS_obj_tup {a : Addr} {v : List D}  : eqS (.obj a) (.tup v) = none := rfl
theorem eqS_tup_obj {a : Addr} {v : List D}  : eqS (.tup v) (.obj a) = none := rfl
theorem eqS_obj_obj {a b : Addr} : eqS (.obj a) (.obj b) = none := rfl
def inR (neg : Bool) (x y : D) (M : Mem) (Q : QD) : Prop := match y with
  | .lst ds => flatD x = true ∧ ds.all flatD = true ∧ Q (.bl (cond neg (!inD x ds) (inD x ds))) M
  | .tup ds => flatD x = true ∧ ds.all flatD = true ∧ Q (.bl (cond neg (!inD x ds) (inD x ds))) M
  | .str z => (match x with
    | .str ⟨⟨[c]⟩⟩ => Q (.bl (cond neg (!decide (c ∈ z.cps.toList)) (decide (c ∈ z.cps.toList)))) M
    | _ => False)
  | _ => False
theorem oInN_eq {neg : Bool} {x y : D} {M : Mem} {Q : QD} : oInN neg x y M Q = inR neg x (res M y) M Q := rfl
theorem inR_lst {neg : Bool} {x : D} {ds : List D} {M : Mem} {Q : QD} : inR neg x (.lst ds) M Q = (flatD x = true ∧ ds.all flatD = true ∧ Q (.bl (cond neg (!inD x ds) (inD x ds))) M) := rfl
theorem inR_tup {neg : Bool} {x : D} {ds : List D} {M : Mem} {Q : QD} : inR neg x (.tup ds) M Q = (flatD x = true ∧ ds.all flatD = true ∧ Q (.bl (cond neg (!inD x ds) (inD x ds))) M) := rfl
theorem inR_str {neg : Bool} {c : Nat} {z : Str} {M : Mem} {Q : QD} : inR neg (.str ⟨#[c]⟩) (.str z) M Q = Q (.bl (cond neg (!decide (c ∈ z.cps.toList)) (decide (c ∈ z.cps.toList)))) M := rfl
theorem flatD_non  : flatD .non = true := rfl
theorem flatD_bl (b : Bool) : flatD (.bl b) = true := rfl
theorem flatD_int (i : Int) : flatD (.int i) = true := rfl
theorem flatD_str (z : Str) : flatD (.str z) = true := rfl
theorem asB_bl {b : Bool} {M : Mem} {Q : Bool → Mem → Prop} : asB (.bl b) M Q = Q b M := rfl
theorem isN_non  : isN .non = true := rfl
theorem isN_bl (b : Bool) : isN (.bl b) = false := rfl
theorem isN_int (i : Int) : isN (.int i) = false := rfl
theorem isN_str (z : Str) : isN (.str z) = false := rfl
theorem isN_lst (xs : List D) : isN (.lst xs) = false := rfl
theorem isN_tup (xs : List D) : isN (.tup xs) = false := rfl
theorem isN_dic (kvs : List (Str × D)) : isN (.dic kvs) = false := rfl
theorem isN_scr (ns : List Int) : isN (.scr ns) = false := rfl
theorem isN_ty (n : String) : isN (.ty n) = false := rfl
theorem isN_obj (a : Addr) : isN (.obj a) = false := rfl
def frzR (r d : D) (M : Mem) (Q : QD) : Prop := match r, d with
  | .lst ds, .obj a => Q (.lst ds) (M.del a)
  | .dic kvs, .obj a => Q (.dic kvs) (M.del a)
  | _, .obj _ => False
  | _, d => Q d M
theorem frz_obj {a : Addr} {M : Mem} {Q : QD} : frz (.obj a) M Q = frzR (res M (.obj a)) (.obj a) M Q := rfl
theorem frzR_lst {a : Addr} {ds : List D} {M : Mem} {Q : QD} : frzR (.lst ds) (.obj a) M Q = Q (.lst ds) (M.del a) := rfl
theorem frzR_dic {a : Addr} {ds : List (Str × D)} {M : Mem} {Q : QD} : frzR (.dic ds) (.obj a) M Q = Q (.dic ds) (M.del a) := rfl
theorem frz_non  {M : Mem} {Q : QD} : frz .non M Q = Q .non M := rfl
theorem frz_bl (b : Bool) {M : Mem} {Q : QD} : frz (.bl b) M Q = Q (.bl b) M := rfl
theorem frz_int (i : Int) {M : Mem} {Q : QD} : frz (.int i) M Q = Q (.int i) M := rfl
theorem frz_str (z : Str) {M : Mem} {Q : QD} : frz (.str z) M Q = Q (.str z) M := rfl
theorem frz_lst (xs : List D) {M : Mem} {Q : QD} : frz (.lst xs) M Q = Q (.lst xs) M := rfl
theorem frz_tup (xs : List D) {M : Mem} {Q : QD} : frz (.tup xs) M Q = Q (.tup xs) M := rfl
theorem frz_dic (kvs : List (Str × D)) {M : Mem} {Q : QD} : frz (.dic kvs) M Q = Q (.dic kvs) M := rfl
theorem frz_scr (ns : List Int) {M : Mem} {Q : QD} : frz (.scr ns) M Q = Q (.scr ns) M := rfl
theorem frz_ty (n : String) {M : Mem} {Q : QD} : frz (.ty n) M Q = Q (.ty n) M := rfl
def ixR (x y : D) (M : Mem) (Q : QD) : Prop := match x, y with
  | .lst ds, .int i => el (nth ds i) fun d => Q d M
  | .tup ds, .int i => el (nth ds i) fun d => Q d M
  | .scr ns, .int i => el (nth ns i) fun n => Q (.int n) M
  | .str z, .int i => el (nth z.cps.toList i) fun c => Q (.str ⟨#[c]⟩) M
  | .dic kvs, .str k => el (look kvs k) fun d => Q d M
  | _, _ => False
theorem oIx_eq {x y : D} {M : Mem} {Q : QD} : oIx x y M Q = ixR (res M x) y M Q := rfl
theorem ixR_lst {ds : List D} {i : Int} {M : Mem} {Q : QD} : ixR (.lst ds) (.int i) M Q = el (nth ds i) fun d => Q d M := rfl
theorem ixR_tup {ds : List D} {i : Int} {M : Mem} {Q : QD} : ixR (.tup ds) (.int i) M Q = el (nth ds i) fun d => Q d M := rfl
theorem ixR_scr {ns : List Int} {i : Int} {M : Mem} {Q : QD} : ixR (.scr ns) (.int i) M Q = el (nth ns i) fun n => Q (.int n) M := rfl
theorem ixR_str {z : Str} {i : Int} {M : Mem} {Q : QD} : ixR (.str z) (.int i) M Q = el (nth z.cps.toList i) fun c => Q (.str ⟨#[c]⟩) M := rfl
theorem ixR_dic {kvs : List (Str × D)} {k : Str} {M : Mem} {Q : QD} : ixR (.dic kvs) (.str k) M Q = el (look kvs k) fun d => Q d M := rfl
theorem nth_0 {α : Type} {x0 : α} {r : List α} : nth (x0 :: r) 0 = some x0 := rfl
theorem nth_1 {α : Type} {x0 x1 : α} {r : List α} : nth (x0 :: x1 :: r) 1 = some x1 := rfl
theorem nth_2 {α : Type} {x0 x1 x2 : α} {r : List α} : nth (x0 :: x1 :: x2 :: r) 2 = some x2 := rfl
theorem nth_3 {α : Type} {x0 x1 x2 x3 : α} {r : List α} : nth (x0 :: x1 :: x2 :: x3 :: r) 3 = some x3 := rfl
def slR (x : D) (lo hi : Option Int) (M : Mem) (Q : QD) : Prop := match x with
  | .lst ds => Q (.lst (dcut ds lo hi)) M
  | .tup ds => Q (.tup (dcut ds lo hi)) M
  | .str z => Q (.str (cutS z lo hi)) M
  | _ => False
theorem oSl_eq {x : D} {lo hi : Option Int} {M : Mem} {Q : QD} : oSl x lo hi M Q = slR (res M x) lo hi M Q := rfl
theorem slR_lst {ds : List D} {lo hi : Option Int} {M : Mem} {Q : QD} : slR (.lst ds) lo hi M Q = Q (.lst (dcut ds lo hi)) M := rfl
theorem slR_tup {ds : List D} {lo hi : Option Int} {M : Mem} {Q : QD} : slR (.tup ds) lo hi M Q = Q (.tup (dcut ds lo hi)) M := rfl
theorem slR_str {z : Str} {lo hi : Option Int} {M : Mem} {Q : QD} : slR (.str z) lo hi M Q = Q (.str (cutS z lo hi)) M := rfl
def partR (d : D) (M : Mem) (Q : Option Int → Mem → Prop) : Prop := match d with
  | .int i => Q (some i) M
  | _ => False
theorem dPart_eq {t : DE} {δ : DS} {M : Mem} {Q : Option Int → Mem → Prop} {X : XD} : dPart t δ M Q X = t δ M (fun d M1 => partR d M1 Q) X := rfl
theorem partR_int {i : Int} {M : Mem} {Q : Option Int → Mem → Prop} : partR (.int i) M Q = Q (some i) M := rfl
theorem on1_cons {F : D → Mem → QD → Prop} {d : D} {M : Mem} {Q : QD} : on1 F [d] M Q = F (res M d) M Q := rfl
theorem on2_cons {F : D → D → Mem → QD → Prop} {d e : D} {M : Mem} {Q : QD} : on2 F [d, e] M Q = F (res M d) (res M e) M Q := rfl
theorem lenD_lst {xs : List D} {M : Mem} {Q : QD} : lenD (.lst xs) M Q = Q (.int xs.length) M := rfl
theorem lenD_tup {xs : List D} {M : Mem} {Q : QD} : lenD (.tup xs) M Q = Q (.int xs.length) M := rfl
theorem lenD_scr {xs : List Int} {M : Mem} {Q : QD} : lenD (.scr xs) M Q = Q (.int xs.length) M := rfl
theorem lenD_str {z : Str} {M : Mem} {Q : QD} : lenD (.str z) M Q = Q (.int z.length) M := rfl
theorem intD_int {i : Int} {M : Mem} {Q : QD} : DL.intD (.int i) M Q = Q (.int i) M := rfl
theorem intD_bl {k : Bool} {M : Mem} {Q : QD} : DL.intD (.bl k) M Q = Q (.int (cond k 1 0)) M := rfl
theorem strD_int {i : Int} {M : Mem} {Q : QD} : strD (.int i) M Q = (0 ≤ i ∧ i < 1000000000 ∧ Q (.str (toString i)) M) := rfl
theorem int2_int {g : Int → Int → Int} {i j : Int} {M : Mem} {Q : QD} : int2 g (.int i) (.int j) M Q = Q (.int (g i j)) M := rfl
theorem listM_lst {ds : List D} {M : Mem} {Q : QD} : listM (.lst ds) M Q = ∀ p, M p = none → Q (.obj p) (M.set p (.lst ds)) := rfl
theorem listF_lst {ds : List D} {M : Mem} {Q : QD} : listF (.lst ds) M Q = Q (.lst ds) M := rfl
theorem listM_tup {ds : List D} {M : Mem} {Q : QD} : listM (.tup ds) M Q = ∀ p, M p = none → Q (.obj p) (M.set p (.lst ds)) := rfl
theorem listF_tup {ds : List D} {M : Mem} {Q : QD} : listF (.tup ds) M Q = Q (.lst ds) M := rfl
theorem dictM_dic {kvs : List (Str × D)} {M : Mem} {Q : QD} : dictM (.dic kvs) M Q = ∀ p, M p = none → Q (.obj p) (M.set p (.dic kvs)) := rfl
theorem isiD_ty {d : D} {n : String} {M : Mem} {Q : QD} : isiD d (.ty n) M Q = el (isB n d) fun b => Q (.bl b) M := rfl
theorem oAppend_obj {a : Addr} {d : D} {M : Mem} {Q : QD} : oAppend (.obj a) [d] M Q = elL (M a) fun xs => xs.length < sizeLine ∧ Q .non (M.set a (.lst (xs ++ [d]))) := rfl
theorem oInsert_obj {a : Addr} {i : Int} {d : D} {M : Mem} {Q : QD} : oInsert (.obj a) [.int i, d] M Q = elL (M a) fun xs => xs.length < sizeLine ∧ 0 ≤ i ∧ i < 2 ^ 63 ∧ Q .non (M.set a (.lst (xs.take i.toNat ++ [d] ++ xs.drop i.toNat))) := rfl
theorem oPop_obj {a : Addr} {M : Mem} {Q : QD} : oPop (.obj a) [] M Q = elL (M a) fun xs => el xs[xs.length - 1]? fun d => Q d (M.set a (.lst xs.dropLast)) := rfl
theorem oPopAt_obj {a : Addr} {i : Int} {M : Mem} {Q : QD} : oPopAt (.obj a) [.int i] M Q = elL (M a) fun xs => 0 ≤ i ∧ i < 2 ^ 62 ∧ el xs[i.toNat]? fun d => Q d (M.set a (.lst (xs.eraseIdx i.toNat))) := rfl
def isLstR (d : D) : Prop := match d with
  | .lst _ => True
  | _ => False
theorem isLst_eq {d : D} {M : Mem} : isLst d M = isLstR (res M d) := rfl
theorem isLstR_lst {ds : List D} : isLstR (.lst ds) = True := rfl
theorem isStr_str {z : Str} {M : Mem} : isStr (.str z) M = True := rfl
theorem oSplit_str {a b : Str} {M : Mem} {Q : QD} : oSplit (.str a) [.str b] M Q = ((b.length == 0) = false ∧ a.length + 2 ≤ sizeLine ∧ (Txt.split a b).length ≤ sizeLine ∧ (∀ z ∈ Txt.split a b, strOk z = true) ∧ Q (.lst ((Txt.split a b).map .str)) M) := rfl
theorem oJoin_str {a : Str} {d : D} {M : Mem} {Q : QD} : oJoin (.str a) [d] M Q = ∃ ys : List Str, (res M d = .lst (ys.map .str) ∨ res M d = .tup (ys.map .str)) ∧ (ys.map (·.length)).sum + ys.length * a.length ≤ 16777216 ∧ strOk (Txt.join a ys) = true ∧ Q (.str (Txt.join a ys)) M := rfl
theorem itemsOf_lst {ds : List D} {M : Mem} {F : List D → (Mem → Prop) → Prop} : itemsOf (.lst ds) M F = F ds still := rfl
theorem itemsOf_tup {ds : List D} {M : Mem} {F : List D → (Mem → Prop) → Prop} : itemsOf (.tup ds) M F = F ds still := rfl
theorem itemsOf_str {z : Str} {M : Mem} {F : List D → (Mem → Prop) → Prop} : itemsOf (.str z) M F = F (signsD z) still := rfl
theorem itemsOf_obj {a : Addr} {M : Mem} {F : List D → (Mem → Prop) → Prop} : itemsOf (.obj a) M F = elL (M a) fun ds => F ds fun M' => M' a = some (.lst ds) := rfl
theorem rng1_int {j : Int} {F : List D → (Mem → Prop) → Prop} : rng1 [.int j] F = (-1000000 ≤ j ∧ j ≤ 1000000 ∧ F (rangeD 0 j.toNat) still) := rfl
theorem enumOf_lst {ds : List D} {M : Mem} {F : List D → (Mem → Prop) → Prop} : enumOf [.lst ds] M F = F (enumD 0 ds) still := rfl
theorem enumOf_obj {a : Addr} {M : Mem} {F : List D → (Mem → Prop) → Prop} : enumOf [.obj a] M F = elL (M a) fun xs => F (enumD 0 xs) fun M' => M' a = some (.lst xs) := rfl
theorem all_still {p : Prop} : ((∀ M, still M) ∧ p) = p := by simp
theorem two_tup {x y : D} {F : D → D → Prop} : two (.tup [x, y]) F = F x y := rfl
theorem insIs_obj {C a : Addr} {f : Str} {M : Mem} : insIs C f (.obj a) M = elI C (M a) fun fs => look fs f = none := rfl
theorem getFld_obj {C a : Addr} {f : Str} {M : Mem} {Q : QD} : getFld C f (.obj a) M Q = elI C (M a) fun fs => el (look fs f) fun d => Q d M := rfl
theorem setFld_obj {C a : Addr} {f : Str} {v : D} {M : Mem} {F : Mem → Prop} : setFld C f (.obj a) v M F = elI C (M a) fun fs => few 99 (fs.map (·.2)) ∧ F (M.set a (.ins C (dput fs f v))) := rfl
theorem putDic_obj {a : Addr} {s : Str} {v : D} {M : Mem} {F : Mem → Prop} : putDic (.obj a) (.str s) v M F = elD (M a) fun kvs => few 99 (kvs.map (·.2)) ∧ (kvs.map (·.1)).Nodup ∧ F (M.set a (.dic (dput kvs s v))) := rfl
/-! isinstance of data: a table -/
theorem isB_str_non : isB "str" (.non) = some false := (by decide +kernel : kitB "NoneType" "str" = some false)
theorem isB_str_bl (b : Bool) : isB "str" (.bl b) = some false := (by decide +kernel : kitB "bool" "str" = some false)
theorem isB_str_int (b : Int) : isB "str" (.int b) = some false := (by decide +kernel : kitB "int" "str" = some false)
theorem isB_str_str (b : Str) : isB "str" (.str b) = some true := (by decide +kernel : kitB "str" "str" = some true)
theorem isB_str_lst (b : List D) : isB "str" (.lst b) = some false := (by decide +kernel : kitB "list" "str" = some false)
theorem isB_str_tup (b : List D) : isB "str" (.tup b) = some false := (by decide +kernel : kitB "tuple" "str" = some false)
theorem isB_str_dic (b : List (Str × D)) : isB "str" (.dic b) = some false := (by decide +kernel : kitB "dict" "str" = some false)
theorem isB_int_non : isB "int" (.non) = some false := (by decide +kernel : kitB "NoneType" "int" = some false)
theorem isB_int_bl (b : Bool) : isB "int" (.bl b) = some true := (by decide +kernel : kitB "bool" "int" = some true)
theorem isB_int_int (b : Int) : isB "int" (.int b) = some true := (by decide +kernel : kitB "int" "int" = some true)
theorem isB_int_str (b : Str) : isB "int" (.str b) = some false := (by decide +kernel : kitB "str" "int" = some false)
theorem isB_int_lst (b : List D) : isB "int" (.lst b) = some false := (by decide +kernel : kitB "list" "int" = some false)
theorem isB_int_tup (b : List D) : isB "int" (.tup b) = some false := (by decide +kernel : kitB "tuple" "int" = some false)
theorem isB_int_dic (b : List (Str × D)) : isB "int" (.dic b) = some false := (by decide +kernel : kitB "dict" "int" = some false)
theorem isB_bool_non : isB "bool" (.non) = some false := (by decide +kernel : kitB "NoneType" "bool" = some false)
theorem isB_bool_bl (b : Bool) : isB "bool" (.bl b) = some true := (by decide +kernel : kitB "bool" "bool" = some true)
theorem isB_bool_int (b : Int) : isB "bool" (.int b) = some false := (by decide +kernel : kitB "int" "bool" = some false)
theorem isB_bool_str (b : Str) : isB "bool" (.str b) = some false := (by decide +kernel : kitB "str" "bool" = some false)
theorem isB_bool_lst (b : List D) : isB "bool" (.lst b) = some false := (by decide +kernel : kitB "list" "bool" = some false)
theorem isB_bool_tup (b : List D) : isB "bool" (.tup b) = some false := (by decide +kernel : kitB "tuple" "bool" = some false)
theorem isB_bool_dic (b : List (Str × D)) : isB "bool" (.dic b) = some false := (by decide +kernel : kitB "dict" "bool" = some false)
theorem isB_list_non : isB "list" (.non) = some false := (by decide +kernel : kitB "NoneType" "list" = some false)
theorem isB_list_bl (b : Bool) : isB "list" (.bl b) = some false := (by decide +kernel : kitB "bool" "list" = some false)
theorem isB_list_int (b : Int) : isB "list" (.int b) = some false := (by decide +kernel : kitB "int" "list" = some false)
theorem isB_list_str (b : Str) : isB "list" (.str b) = some false := (by decide +kernel : kitB "str" "list" = some false)
theorem isB_list_lst (b : List D) : isB "list" (.lst b) = some true := (by decide +kernel : kitB "list" "list" = some true)
theorem isB_list_tup (b : List D) : isB "list" (.tup b) = some false := (by decide +kernel : kitB "tuple" "list" = some false)
theorem isB_list_dic (b : List (Str × D)) : isB "list" (.dic b) = some false := (by decide +kernel : kitB "dict" "list" = some false)
theorem isB_tuple_non : isB "tuple" (.non) = some false := (by decide +kernel : kitB "NoneType" "tuple" = some false)
theorem isB_tuple_bl (b : Bool) : isB "tuple" (.bl b) = some false := (by decide +kernel : kitB "bool" "tuple" = some false)
theorem isB_tuple_int (b : Int) : isB "tuple" (.int b) = some false := (by decide +kernel : kitB "int" "tuple" = some false)
theorem isB_tuple_str (b : Str) : isB "tuple" (.str b) = some false := (by decide +kernel : kitB "str" "tuple" = some false)
theorem isB_tuple_lst (b : List D) : isB "tuple" (.lst b) = some false := (by decide +kernel : kitB "list" "tuple" = some false)
theorem isB_tuple_tup (b : List D) : isB "tuple" (.tup b) = some true := (by decide +kernel : kitB "tuple" "tuple" = some true)
theorem isB_tuple_dic (b : List (Str × D)) : isB "tuple" (.dic b) = some false := (by decide +kernel : kitB "dict" "tuple" = some false)
theorem el_some {α : Type} (d : α) (F : α → Prop) : el (some d) F = F d := rfl
theorem elL_lst (ds : List D) (F : List D → Prop) : elL (some (.lst ds)) F = F ds := rfl
theorem elD_dic (ds : List (Str × D)) (F : List (Str × D) → Prop) : elD (some (.dic ds)) F = F ds := rfl
theorem elI_ins (C : Addr) (ds : List (Str × D)) (F : List (Str × D) → Prop) : elI C (some (.ins C ds)) F = F ds := propext ⟨fun h => h.2, fun h => ⟨rfl, h⟩⟩
theorem frz_set_lst {p : Addr} {M : Mem} {ds : List D} {Q : QD} : frz (.obj p) (M.set p (.lst ds)) Q = Q (.lst ds) ((M.set p (.lst ds)).del p) := by
  rw [frz_obj]
  have : res (M.set p (.lst ds)) (.obj p) = .lst ds := by
    show resO p _ = _
    rw [Mem.set_same]; rfl
  rw [this]
  rfl
theorem frz_set_dic {p : Addr} {M : Mem} {ds : List (Str × D)} {Q : QD} : frz (.obj p) (M.set p (.dic ds)) Q = Q (.dic ds) ((M.set p (.dic ds)).del p) := by
  rw [frz_obj]
  have : res (M.set p (.dic ds)) (.obj p) = .dic ds := by
    show resO p _ = _
    rw [Mem.set_same]; rfl
  rw [this]
  rfl
/-- a comprehension whose parts only read, frozen -/
theorem lc_pure {i : Nat} {tt : DT} {te : DE} {δ : DS} {M : Mem} {P : Mem → Prop} {Q : QD} {items : List D} (p : D → Bool) (f : D → D)
    (h1 : ∀ x, x ∈ items → ∀ M', M.Sub M' → ∀ Qb : Bool → Mem → Prop, Qb (p x) M' → tt (δ.set i (some x)) M' Qb fun _ _ _ => False)
    (h2 : ∀ x, x ∈ items → p x = true → ∀ M', M.Sub M' → ∀ Qd : QD, Qd (f x) M' → te (δ.set i (some x)) M' Qd fun _ _ _ => False)
    (h : Q (.lst ((items.filter p).map f)) M) (hP : ∀ M', M.Sub M' → P M' := by exact fun _ _ => trivial) : ∀ D0, M D0 = none → lcL D0 i tt te δ P (fun M2 => frz (.obj D0) M2 Q) items [] (M.set D0 (.lst [])) := fun D0 hD => by
  refine lcL_pure hD hP p f h1 h2 ?_
  rw [frz_set_lst, Mem.del_set hD, List.nil_append]
  exact h
/-- without a test -/
theorem lc_map {i : Nat} {te : DE} {δ : DS} {M : Mem} {P : Mem → Prop} {Q : QD} {items : List D} (f : D → D)
    (h2 : ∀ x, x ∈ items → ∀ M', M.Sub M' → ∀ Qd : QD, Qd (f x) M' → te (δ.set i (some x)) M' Qd fun _ _ _ => False)
    (h : Q (.lst (items.map f)) M) (hP : ∀ M', M.Sub M' → P M' := by exact fun _ _ => trivial) : ∀ D0, M D0 = none → lcL D0 i dYes te δ P (fun M2 => frz (.obj D0) M2 Q) items [] (M.set D0 (.lst [])) := by
  refine lc_pure (fun _ => true) f (fun x _ M' _ Qb q => q) (fun x hx _ => h2 x hx) ?_ hP
  rw [List.filter_eq_self.mpr (fun _ _ => rfl)]
  exact h
/-- a comprehension that makes a list which may change -/
theorem lcm_pure {i : Nat} {tt : DT} {te : DE} {δ : DS} {M : Mem} {P : Mem → Prop} {Q : QD} {items : List D} (p : D → Bool) (f : D → D)
    (h1 : ∀ x, x ∈ items → ∀ M', M.Sub M' → ∀ Qb : Bool → Mem → Prop, Qb (p x) M' → tt (δ.set i (some x)) M' Qb fun _ _ _ => False)
    (h2 : ∀ x, x ∈ items → p x = true → ∀ M', M.Sub M' → ∀ Qd : QD, Qd (f x) M' → te (δ.set i (some x)) M' Qd fun _ _ _ => False)
    (h : ∀ D0, M D0 = none → Q (.obj D0) (M.set D0 (.lst ((items.filter p).map f)))) (hP : ∀ M', M.Sub M' → P M' := by exact fun _ _ => trivial) : ∀ D0, M D0 = none → lcL D0 i tt te δ P (fun M2 => Q (.obj D0) M2) items [] (M.set D0 (.lst [])) := fun D0 hD => by
  refine lcL_pure hD hP p f h1 h2 ?_
  rw [List.nil_append]
  exact h D0 hD
theorem lcm_map {i : Nat} {te : DE} {δ : DS} {M : Mem} {P : Mem → Prop} {Q : QD} {items : List D} (f : D → D)
    (h2 : ∀ x, x ∈ items → ∀ M', M.Sub M' → ∀ Qd : QD, Qd (f x) M' → te (δ.set i (some x)) M' Qd fun _ _ _ => False)
    (h : ∀ D0, M D0 = none → Q (.obj D0) (M.set D0 (.lst (items.map f)))) (hP : ∀ M', M.Sub M' → P M' := by exact fun _ _ => trivial) : ∀ D0, M D0 = none → lcL D0 i dYes te δ P (fun M2 => Q (.obj D0) M2) items [] (M.set D0 (.lst [])) := by
  refine lcm_pure (fun _ => true) f (fun x _ M' _ Qb q => q) (fun x hx _ => h2 x hx) (fun D0 hD => ?_) hP
  rw [List.filter_eq_self.mpr (fun _ _ => rfl)]
  exact h D0 hD
theorem eqv_nil (xs : List D) : D.eqv (.lst xs) (.lst []) = xs.isEmpty := by
  cases xs <;> rfl
theorem flat_map {α : Type} (n : Nat) (g : α → D) (h : ∀ a, flatN n (g a) = true) : ∀ xs : List α, flatL n (xs.map g) = true
  | [] => rfl
  | x :: xs => by
    rw [List.map_cons]
    unfold flatL
    rw [h x, flat_map n g h xs]
    rfl
theorem flatN_lst (n : Nat) (xs : List D) : flatN (n + 1) (.lst xs) = flatL n xs := by simp [flatN]
theorem flatN_tup (n : Nat) (xs : List D) : flatN (n + 1) (.tup xs) = flatL n xs := by simp [flatN]
theorem flatN_str (n : Nat) (z : Str) : flatN n (.str z) = true := by cases n <;> simp [flatN]
theorem flatN_int (n : Nat) (z : Int) : flatN n (.int z) = true := by cases n <;> simp [flatN]
theorem flatN_bl (n : Nat) (z : Bool) : flatN n (.bl z) = true := by cases n <;> simp [flatN]
theorem flatN_non (n : Nat) : flatN n .non = true := by cases n <;> simp [flatN]
theorem flatL_nil (n : Nat) : flatL n [] = true := rfl
theorem flatL_cons (n : Nat) (x : D) (xs : List D) : flatL n (x :: xs) = (flatN n x && flatL n xs) := by simp [flatL]
theorem cond_of {b : Bool} {A B : Prop} (h1 : b = true → A) (h2 : b = false → B) : cond b A B := by
  cases b with
  | true => exact h1 rfl
  | false => exact h2 rfl
theorem cond_dec {c : Prop} [Decidable c] {A B : Prop} (h1 : c → A) (h2 : ¬ c → B) : cond (decide c) A B := by
  by_cases h : c
  · rw [decide_eq_true h]; exact h1 h
  · rw [decide_eq_false h]; exact h2 h
theorem retD_of {Q : QD} {d : D} {M : Mem} (h : Q d M) : retD Q d M := ⟨M, Mem.Sub.refl M, h⟩
theorem retX_of {X : Addr → Mem → Prop} {c : Addr} {δ : DS} {M : Mem} (h : X c M) : retX X c δ M := ⟨M, Mem.Sub.refl M, h⟩
theorem res_obj {M : Mem} {a : Addr} {ds : List D} (h : M a = some (.lst ds)) : res M (.obj a) = .lst ds := by
  show resO a (M a) = _
  rw [h]; rfl
theorem res_objD {M : Mem} {a : Addr} {ds : List (Str × D)} (h : M a = some (.dic ds)) : res M (.obj a) = .dic ds := by
  show resO a (M a) = _
  rw [h]; rfl
theorem cpow_109 : CPow 10 9 = True := eq_true ⟨by decide, by decide, by decide⟩
theorem pow_109 : (10 : Int) ^ (Int.toNat 9) = 1000000000 := by decide
theorem small_line {n : Nat} (h : n ≤ 10000000) : n ≤ sizeLine := by rw [sizeLine_eq]; omega
theorem small_line' {n : Nat} (h : n < 10000000) : n < sizeLine := by rw [sizeLine_eq]; omega
theorem cdiv {a b : Int} (h : 0 < b) (h2 : b < 1073741824) : CDiv a b := ⟨h, h2⟩
/-- a comprehension in a comprehension: the outer one's names -/
theorem lookup_relabel {env : Env} {x : Str} : ∀ (names : List (Str × NameKind)), (names.map fun (n, k) => if (k == NameKind.free && env.scope.kind == .function && env.kindOf n == some .cell) then (n, NameKind.cell) else (n, k)).lookup x =
    (names.lookup x).map fun k => if (k == NameKind.free && env.scope.kind == .function && env.kindOf x == some .cell) then NameKind.cell else k
  | [] => rfl
  | (n, k) :: names => by
    rw [List.map_cons]
    by_cases h : x = n
    · subst h
      simp only [List.lookup_cons, beq_self_eq_true]
      split <;> simp_all
    · have hb : (x == n) = false := beq_eq_false_iff_ne.mpr h
      have ih := lookup_relabel (env := env) (x := x) names
      simp only
      split
      · rw [List.lookup_cons, hb]
        simp only
        rw [ih, List.lookup_cons, hb]
      · rw [List.lookup_cons, hb]
        simp only
        rw [ih, List.lookup_cons, hb]
theorem blkC_relabel {N : List Str} {sc scope : Scope} {own : List (Str × Nat)} {env : Env} (h : blkC N sc scope own = true) : blkC N (relabel sc env) scope own = true := by
  unfold blkC at h ⊢
  simp only [Bool.and_eq_true, List.all_eq_true] at h ⊢
  refine ⟨h.1, fun y hy => ?_⟩
  have q := h.2 y hy
  cases hk : y.2 with
  | free =>
    rw [hk] at q
    simp only at q ⊢
    unfold relabel
    simp only
    rw [lookup_relabel]
    cases hl : sc.names.lookup y.1 with
    | none => rw [hl] at q; cases q
    | some k =>
      rw [hl] at q
      have key : ∀ c : Bool, (match some (if c = true then NameKind.cell else k) with | some .cell => true | some .free => true | _ => false) = true := by
        intro c
        cases k <;> cases c <;> first | rfl | exact q
      exact key _
  | _ =>
    rw [hk] at q
    try exact q
theorem blkOk_nest {N : List Str} {sc scope : Scope} {own : List (Str × Nat)} {cl : List (Str × Addr)} {C : Addr} {env : Env} (h : blkC N sc scope own = true) : BlkOk N (compEnvC sc cl C env).scope scope own := blkOk_by (blkC_relabel h)
end DL

/-! The data layer: sorted of texts -/
namespace DL
open PySem PySem.Spec PyProof.Rows L2

def leS (a b : Str) : Bool := !ltCps b.cps.toList a.cps.toList
theorem leS_iff {a b : Str} : leS a b = true ↔ a.cps.toList ≤ b.cps.toList := by
  unfold leS
  rw [ltCps_eq]
  simp [List.not_lt]
theorem leS_trans {a b c : Str} (h : leS a b = true) (k : leS b c = true) : leS a c = true := by
  rw [leS_iff] at *
  exact List.le_trans h k
theorem leS_anti {a b : Str} (h : leS a b = true) (k : leS b a = true) : a = b := by
  rw [leS_iff] at *
  have := List.le_antisymm h k
  cases a; cases b
  simp only [Str.mk.injEq]
  exact Array.toList_inj.mp this
theorem leS_total (a b : Str) : (leS a b || leS b a) = true := by
  rw [Bool.or_eq_true, leS_iff, leS_iff]
  exact List.le_total a.cps.toList b.cps.toList
def sortS (xs : List Str) : List Str := xs.mergeSort leS
theorem rising_pw : ∀ {x : Str} {r : List Str}, risingS x r = true → (x :: r).Pairwise (fun a b => leS a b = true)
  | x, [], _ => List.pairwise_singleton _ _
  | x, y :: r, h => by
    have h : (!ltCps y.cps.toList x.cps.toList && risingS y r) = true := h
    rw [Bool.and_eq_true] at h
    have ih := rising_pw h.2
    refine List.pairwise_cons.mpr ⟨fun z hz => ?_, ih⟩
    rcases List.mem_cons.mp hz with rfl | hz
    · exact h.1
    · exact leS_trans h.1 ((List.pairwise_cons.mp ih).1 z hz)
theorem sortedS_pw {l : List Str} (h : sortedS l = true) : l.Pairwise (fun a b => leS a b = true) := by
  cases l with
  | nil => exact List.Pairwise.nil
  | cons x r => exact rising_pw h
theorem pw_eq : ∀ {a b : List Str}, a.Perm b → a.Pairwise (fun x y => leS x y = true) → b.Pairwise (fun x y => leS x y = true) → a = b
  | [], b, p, _, _ => (List.nil_perm.mp p).symm
  | x :: a, [], p, _, _ => by have := p.length_eq; simp at this
  | x :: a, y :: b, p, ha, hb => by
    have e : x = y := by
      have h1 : x ∈ y :: b := p.mem_iff.mp List.mem_cons_self
      have h2 : y ∈ x :: a := p.mem_iff.mpr List.mem_cons_self
      rcases List.mem_cons.mp h1 with e | h1
      · exact e
      rcases List.mem_cons.mp h2 with e | h2
      · exact e.symm
      exact leS_anti ((List.pairwise_cons.mp ha).1 y h2) ((List.pairwise_cons.mp hb).1 x h1)
    subst e
    rw [pw_eq (List.Perm.cons_inv p) (List.pairwise_cons.mp ha).2 (List.pairwise_cons.mp hb).2]
theorem sortS_perm (xs : List Str) : (sortS xs).Perm xs := List.mergeSort_perm xs leS
theorem sortS_pw (xs : List Str) : (sortS xs).Pairwise (fun a b => leS a b = true) :=
  List.pairwise_mergeSort (le := leS) (fun a b c h k => leS_trans h k) (fun a b => leS_total a b) xs
theorem sortS_of {xs ys : List Str} (p : ys.Perm xs) (h : sortedS ys = true) : ys = sortS xs := pw_eq (p.trans (sortS_perm xs).symm) (sortedS_pw h) (sortS_pw xs)
theorem sortS_eq {xs ys : List Str} (p : xs.Perm ys) : sortS xs = sortS ys := pw_eq ((sortS_perm xs).trans (p.trans (sortS_perm ys).symm)) (sortS_pw xs) (sortS_pw ys)
def rSortedA (K : PySem.W.Frag) : List V → Hp → VK → Prop := fun vs H Q => ∃ (a : Addr) (xs : List Str), vs = [V.ref a] ∧ SqL K H a (xs.map V.str) ∧
  ∀ (ys : List Str) (p : Addr), ys.Perm xs → sortedS ys = true → H p = none → Q (.ref p) (upd H p (.lst (ys.map V.str)))
section
variable {X : Cx} {K : PySem.W.Frag}
theorem cr_sortedD : CallR X (.builtin "sorted") (rSortedA X.K) := by
  intro pins s σ H vs us Q I r h
  obtain ⟨a, xs, rfl, hs, q⟩ := h
  obtain ⟨its, rv, hl, hz⟩ := I.list hs
  rw [Vals.ref1 r]
  have hlen0 := rv.length
  rw [List.length_map] at hlen0
  rw [List.length_map] at hz
  refine PyProof.Rows.sorted_strsAny hl.isList rv.strs (by rw [← hlen0]; exact hz) fun out ys h1 h2 h3 => ?_
  obtain ⟨ep, he'⟩ := PyProof.Rows.sortedAll_at s.heap its out
  have hlen : (ys.map V.str).length ≤ sizeLine := by rw [List.length_map, h2.length_eq]; exact hz
  exact ⟨.ref _, upd H (s.heap.objs.size + 1) (.lst (ys.map V.str)), I.laid (t' := s.toks) (fun _ _ => PyProof.Rows.sortedAll_old) (Nat.le_succ _) ⟨hlen, out.toList, ep, vals_of_strs h1, he'⟩, rfl, q ys _ h2 h3 (I.hok.fresh (Nat.le_succ _))⟩
def sortD (d : D) (M : Mem) (Q : QD) : Prop := ∃ ns : List Str, d = .lst (ns.map .str) ∧ Q (.lst ((sortS ns).map .str)) M
theorem reps_ok {G : Hp} : ∀ {ns : List Str} {vs : List V}, RepL K G vs (ns.map D.str) → ∀ z ∈ ns, strOk z = true
  | [], _, _ => fun z hz => by cases hz
  | x :: r, _, .cons (.str _ h) t => fun z hz => by
    rcases List.mem_cons.mp hz with rfl | hz
    · exact h
    · exact reps_ok t z hz
theorem l_sortedD : LCall K (rSortedA K) (on1 sortD) := by
  refine LCall.imp (l_on1 (r := fun x H Q => ∃ (a : Addr) (xs : List Str), x = .ref a ∧ SqL K H a (xs.map V.str) ∧ ∀ (ys : List Str) (p : Addr), ys.Perm xs → sortedS ys = true → H p = none → Q (.ref p) (upd H p (.lst (ys.map V.str)))) fun v H G M d d' Q Q' ok rv e h hq => ?_) fun vs H Q ⟨v, e, a, ns, f, h⟩ => ⟨a, ns, by rw [e, f], h⟩
  obtain ⟨ns, f, h⟩ := h
  subst f
  obtain ⟨a, vs, f, h1, q, z⟩ := rv.lstOf ok e
  have hok := reps_ok q
  have := reps_strs q
  subst this
  refine ⟨a, ns, f, SqL.of h1, fun ys p hp hs hn => ?_⟩
  have gp := ok.gnone hn
  have ey := sortS_of hp hs
  refine hq _ _ _ _ _ h (ok.frozen hn) (same_upd gp) (.lst upd_same ?_ ?_)
  · rw [← ey]
    exact .strs fun z hz => hok z (hp.mem_iff.mp hz)
  · rw [List.length_map, ← ey, hp.length_eq, ← List.length_map (f := D.str)]
    exact z
end
theorem sortD_lst {ns : List Str} {M : Mem} {Q : QD} (h : Q (.lst ((sortS ns).map .str)) M) : sortD (.lst (ns.map .str)) M Q := ⟨ns, rfl, h⟩
end DL

/-! The data layer: try with a named exception, isinstance of it -/
namespace DL
open PySem PySem.Spec PyProof.Rows L2

/-- behind the suite the name is gone -/
abbrev goneE (i : Nat) (E : DEnds) : DEnds := { nx := fun δ M => E.nx (δ.set i none) M, rt := E.rt, bk := fun δ M => E.bk (δ.set i none) M, ct := fun δ M => E.ct (δ.set i none) M, xc := fun _ _ _ => False }
def dTryAs (K : PySem.W.Frag) (c : Value) (i : Nat) (t : DSt) (u : Addr → Addr → DSt) : DSt := fun E δ M =>
  t { E with xc := fun cls δ' M' => PySem.W.exmOne K (.ref cls) c = some true ∧ ∀ a, M' a = none → u a cls (goneE i E) (δ'.set i (some (.obj a))) M' } δ M
section
variable {X : Cx} {W : WX} {x n : Str} {i : Nat} {np pos pos' : Pos}
theorem pds_tryAs {c : Value} {body suite : List Stmt} {b₀ : Stmt} {t : DSt} {u : Addr → Addr → DSt} (hs : X.stack = X.env :: X.outer) (hf : X.env.frame = some X.env.locals) (hN : X.N.Nodup) (hi : X.N[i]? = some n) (hln : X.env.kindOf n = some .local) (hc : Names X x c) (tk : L2N.Takes X W)
    (hb : ∀ (W' : WX) (pn : List (Addr × Obj)) (xe : Value → Shared → Prop), L2N.Takes (X.tr pn xe) W' → PassesOwn (model X.prog X.w) X.A X.env xe → PDSs (X.tr pn xe) W' body t)
    (hsu : ∀ (a ec : Addr) (oe : Obj) (pn : List (Addr × Obj)), L2N.Zn (.ref ec) none oe → (∃ vs, oe.data = .fields vs) → PDSs (X.suite a ((a, oe) :: pn)) W0 (b₀ :: suite) (u a ec)) :
    PDS X W (.Try body [.ExceptHandler (some (.Name x np)) (some n) (b₀ :: suite) pos'] [] [] pos) (dTryAs X.K c i t u) :=
  PSw (L2N.ps_try_as (tb := fun W' => upS X.K W' t) (ts := fun a cls d D σ H => ∃ ec, cls = .ref ec ∧ d = none ∧ upS X.K W0 (u a ec) D σ H) (Wout := W) hs hf hN hi hln hc tk hb
    (fun a oe cls d pn hz hf => ⟨fun pins s σ H D I ⟨ec, e1, e2, h⟩ => by
      subst e1 e2
      exact (hsu a ec oe pn hz hf).run pins s σ H D I h⟩)) fun D σ H ⟨G, M, δ, E, ok, sl, h, eo⟩ =>
    ⟨G, M, δ, _, ok, sl, h, ⟨eo.nx, eo.rt, eo.bk, eo.ct, fun cls δ' M' σ' H' G' ⟨hx, hu⟩ ok' e' sl' => ⟨true, hx, fun _ a ha => ⟨cls, rfl, rfl, G', M', _, _, ok', Slots.set (.yes (.obj a)) i sl', hu a (ok'.mnone ha),
      ⟨fun δ2 M2 σ2 H2 G2 h2 ok2 e2 sl2 => eo.nx _ _ _ _ _ h2 ok2 (e'.trans e2) (Slots.set .no i sl2), fun d M2 v H2 G2 h2 ok2 e2 r2 => eo.rt _ _ _ _ _ h2 ok2 (e'.trans e2) r2,
       fun δ2 M2 σ2 H2 G2 h2 ok2 e2 sl2 => eo.bk _ _ _ _ _ h2 ok2 (e'.trans e2) (Slots.set .no i sl2), fun δ2 M2 σ2 H2 G2 h2 ok2 e2 sl2 => eo.ct _ _ _ _ _ h2 ok2 (e'.trans e2) (Slots.set .no i sl2), WOk.bot⟩⟩, fun z => nomatch z⟩⟩⟩
end

/-! ### isinstance of the exception that the suite holds -/
def kitD (K : PySem.W.Frag) (ec : Addr) : D → Option Bool
  | .obj C => PySem.W.kitOne K (.ref ec) (.ref C)
  | .ty n => PySem.W.kitOne K (.ref ec) (.type n)
  | _ => none
def kitAnyD (K : PySem.W.Frag) (ec : Addr) : List D → Option Bool
  | [] => some false
  | c :: r => match kitD K ec c with
    | some true => some true
    | some false => kitAnyD K ec r
    | none => none
def kitV (K : PySem.W.Frag) (ec : Addr) : D → Option Bool
  | .tup cs => kitAnyD K ec cs
  | d => kitD K ec d
def isED (K : PySem.W.Frag) (a ec : Addr) (ds : List D) (M : Mem) (Q : QD) : Prop := match ds with
  | [.obj a', c] => a' = a ∧ ExcC K ec ∧ el (kitV K ec c) fun b => Q (.bl b) M
  | _ => False
def rIsEA (K : PySem.W.Frag) (ec a : Addr) : List V → Hp → VK → Prop := fun xs H Q => ExcC K ec ∧ (rIsE K ec a xs H Q ∨ ∃ (tp : Addr) (cs : List V) (b : Bool), xs = [.ref a, .ref tp] ∧ SqT K H tp cs ∧ (∀ us, Vals cs us → PySem.W.kitAny K (.ref ec) us = some b) ∧ Q (.bl b) H)
theorem call_isEA {X : Cx} {a ec : Addr} {oe : Obj} {pn : List (Addr × Obj)} (hz : L2.Zc (.ref ec) none oe) (hf : ∃ vs, oe.data = .fields vs) : CallR (X.suite a ((a, oe) :: pn)) (.builtin "isinstance") (rIsEA X.K ec a) := by
  intro pins s σ H xs us Q I r ⟨C, h⟩
  rcases h with h | ⟨tp, cs, b, rfl, hT, e, q⟩
  · exact call_isE C hz hf pins s σ H xs us Q I r h
  · cases r with
    | cons rx rr =>
      cases rr with
      | cons rt rr =>
        cases rr
        cases rx
        cases rt
        obtain ⟨hget, _⟩ := I.pin (a, oe) (List.mem_append.mpr (.inl List.mem_cons_self))
        obtain ⟨vs, hv⟩ := hf
        have J : PySem.W.InstAt s.heap a oe ec none := by
          obtain ⟨oc, od, oda, osl⟩ := oe
          obtain ⟨h1, h2⟩ := hz
          dsimp only at h1 h2 hv
          subst h1 h2 hv
          exact ⟨hget, rfl, rfl, trivial⟩
        obtain ⟨its, rv, ⟨o, h1, h2, n, h3⟩, _⟩ := I.tuple hT
        obtain ⟨oc, od, dt, sl⟩ := o
        simp only at h2 h3
        subst h2 h3
        exact PySem.W.kia_tup (PySem.W.handS_kitx_exc C.hg C.hk C.hs C.hd C.ha C.hn C.ht C.hm) I.kIn J h1 (e its rv) (fun z => nomatch z) fun tk => ⟨.bl b, H, I.kept (t' := tk) fun _ _ z => z, rfl, q⟩
section
variable {K : PySem.W.Frag}
theorem kitD_val {G : Hp} {ec : Addr} {v : V} {d : D} {b : Bool} (r : Rep K G v d) (h : kitD K ec d = some b) : ∃ cv, (∀ u, RelV v u → u = cv) ∧ PySem.W.kitOne K (.ref ec) cv = some b := by
  cases r with
  | obj a => exact ⟨_, fun u e => e, h⟩
  | ty n => exact ⟨_, fun u e => e, h⟩
  | _ => cases h
theorem kitAnyD_vals {G : Hp} {ec : Addr} : ∀ {vs : List V} {ds : List D} {b : Bool}, RepL K G vs ds → kitAnyD K ec ds = some b → ∀ us, Vals vs us → PySem.W.kitAny K (.ref ec) us = some b
  | _, _, _, .nil, h, _, .nil => h
  | _, _, b, .cons r t, h, _, .cons ru rt => by
    unfold kitAnyD at h
    split at h
    · rename_i e
      obtain ⟨cv, h1, h2⟩ := kitD_val r e
      cases h1 _ ru
      unfold PySem.W.kitAny
      rw [h2]
      exact h
    · rename_i e
      obtain ⟨cv, h1, h2⟩ := kitD_val r e
      cases h1 _ ru
      unfold PySem.W.kitAny
      rw [h2]
      exact kitAnyD_vals t h _ rt
    · cases h
theorem l_isE {a ec : Addr} : LCall K (rIsEA K ec a) (isED K a ec) := by
  intro vs H G M ds Q Q' ok rl h hq
  unfold isED at h
  split at h
  · rename_i a' c
    obtain ⟨rfl, C, h1⟩ := h
    obtain ⟨b, eb, h2⟩ := el_of h1
    cases rl with
    | cons r1 r2 =>
      cases r2 with
      | cons r2 r3 =>
        cases r3
        cases r1
        refine ⟨C, ?_⟩
        unfold kitV at eb
        split at eb
        · cases r2 with
          | tup hg q z => exact .inr ⟨_, _, b, rfl, SqT.of (ok.sub _ _ hg), kitAnyD_vals q eb, hq _ _ _ _ _ h2 ok (Same.refl _) (.bl b)⟩
        · obtain ⟨cv, k1, k2⟩ := kitD_val r2 eb
          exact .inl ⟨_, cv, b, rfl, k1, k2, hq _ _ _ _ _ h2 ok (Same.refl _) (.bl b)⟩
  · exact h.elim
end
theorem isED_obj {K : PySem.W.Frag} {a ec a' : Addr} {c : D} {M : Mem} {Q : QD} : isED K a ec [.obj a', c] M Q = (a' = a ∧ ExcC K ec ∧ el (kitV K ec c) fun b => Q (.bl b) M) := rfl
theorem kitV_obj {K : PySem.W.Frag} {ec C : Addr} : kitV K ec (.obj C) = PySem.W.kitOne K (.ref ec) (.ref C) := rfl
theorem kitV_ty {K : PySem.W.Frag} {ec : Addr} {n : String} : kitV K ec (.ty n) = PySem.W.kitOne K (.ref ec) (.type n) := rfl
theorem kitAnyD_cons {K : PySem.W.Frag} {ec C : Addr} {cs : List D} {b r : Bool} (h : PySem.W.kitOne K (.ref ec) (.ref C) = some b) (hr : b = false → kitAnyD K ec cs = some r) (hb : b = true → r = true) : kitAnyD K ec (.obj C :: cs) = some r := by
  unfold kitAnyD
  rw [show kitD K ec (.obj C) = some b from h]
  cases b with
  | true => show some true = some r; rw [hb rfl]
  | false => exact hr rfl
end DL

/-! The data layer: == and != where a dict may stand among the items -/
namespace PySem.SeqAt
open AutoSeq1 (wpAny_loadPart')
open MeetsSeq
theorem dl_dict_ne_tuple (l b : Addr) (es : Array DictEntry) (ep : Nat) (items2 : Array Value) (n2 : Nat) (dd2 : Option Addr) (sl2 : Array (Option Value)) :
    Meets (Builtin.«dict.__ne__» ⟨[.ref l, .ref b], []⟩) (fun _ R s => s.heap.get? l = some { cls := .type "dict", dict := none, data := .dict es ep, slots := #[] } ∧ s.heap.get? b = some { cls := .type "tuple", dict := dd2, data := .seq items2 n2, slots := sl2 } ∧ R (.ok (.ret .notImplemented)) s) :=
  .of_wp fun prog w A R s h => by obtain ⟨hp, g, d, tk, os⟩ := s; obtain ⟨hl, hb, h⟩ := h; have f1 := F.sub_tuple_dict; wp_walk using wpAny_loadPart' hl, wpAny_loadPart' hb; exact ⟨_, rfl, h⟩
theorem dl_tuple_ne_dict (l b : Addr) (items : Array Value) (n : Nat) (es : Array DictEntry) (ep : Nat) (dd : Option Addr) (sl : Array (Option Value)) :
    Meets (Builtin.«tuple.__ne__» ⟨[.ref l, .ref b], []⟩) (fun _ R s => s.heap.get? l = some { cls := .type "tuple", dict := dd, data := .seq items n, slots := sl } ∧ s.heap.get? b = some { cls := .type "dict", dict := none, data := .dict es ep, slots := #[] } ∧ R (.ok (.ret .notImplemented)) s) :=
  .of_wp fun prog w A R s h => by obtain ⟨hp, g, d, tk, os⟩ := s; obtain ⟨hl, hb, h⟩ := h; have f1 := F.sub_dict_tuple; wp_walk using wpAny_loadPart' hl, wpAny_loadPart' hb; exact ⟨_, rfl, h⟩
theorem dl_rcNe_dict_tuple {A : Around} {s : Shared} {l b : Addr} {o : Obj} {es : Array DictEntry} {ep : Nat} {items2 : Array Value} (hl : s.heap.get? l = some o) (hx : o.ExactDict) (hd : o.data = .dict es ep) (hb : s.heap.IsTuple b items2) (hu : A.units < cLine) : RcNeAt A s (.ref l) (.ref b) true := fun prog w E Q h => by
  obtain ⟨cls, dd, data, sl⟩ := o
  obtain ⟨h1, h2, h3⟩ := hx
  obtain ⟨⟨cls2, dd2, data2, sl2⟩, ho2, hc2, n2, hd2⟩ := id hb
  simp only at h1 h2 h3 hd hc2 hd2
  subst h1 h2 h3 hd hc2 hd2
  have hne : l ≠ b := fun e => by
    subst e
    rw [hl] at ho2
    have := congrArg Obj.data (Option.some.inj ho2)
    simp at this
  exact (rc_ne_decline_or (k := false) ⟨_, hl, rfl⟩ ⟨_, ho2, rfl⟩ (by decide) F.sub_tuple_dict F.slot_dict_ne F.slot_tuple_ne_refl
    (fun _ hq => call_meets F.slot_dict_ne ⟨_, hl, rfl⟩ F.entry_dict_ne (F.args_dict_ne_2 _ _) (dl_dict_ne_tuple l b es ep items2 n2 dd2 sl2) ⟨hl, ho2, hq⟩)
    (fun _ hq => call_meets F.slot_tuple_ne_refl ⟨_, ho2, rfl⟩ F.entry_tuple_ne (F.args_tuple_ne_2 _ _) (dl_tuple_ne_dict b l items2 n2 es ep dd2 sl2) ⟨ho2, hl, hq⟩)
    (fun _ hq => wpAny_isSame_ref_other hne hl ho2 (by simp) hq) (.inr hu) h)
end PySem.SeqAt
namespace DL
open PySem PySem.Spec PyProof.Rows L2

/-- the same item, or equal data -/
def SameV (K : PySem.W.Frag) (H : Hp) (v w : V) : Prop := (∃ a, v = .ref a ∧ w = .ref a) ∨ ∃ d, Dp K H v d ∧ Dp K H w d ∧ d.canLay0 = true ∧ d.depth ≤ 60 ∧ PyData.eqv d d = true
/-- two lists item by item the same -/
def rSameL (K : PySem.W.Frag) (neg : Bool) : R2 := fun x y H Q => ∃ (a b : Addr) (vs ws : List V), x = .ref a ∧ y = .ref b ∧ SqL K H a vs ∧ SqL K H b ws ∧ Paired (SameV K H) vs ws ∧ Q (.bl (!neg)) H
def rDictTup (K : PySem.W.Frag) : R2 := fun x y H Q => ∃ (a b : Addr) (ks : List (Key × V)) (ws : List V), x = .ref a ∧ y = .ref b ∧ H a = some (.dK ks) ∧ SqT K H b ws ∧ Q (.bl true) H
section
variable {X : Cx} {K : PySem.W.Frag}
theorem same_items {pins : List (Addr × Obj)} {σ : L2.St} {H : Hp} {s : Shared} (I : Inv X pins σ H s) (hu : X.A.units + 64 < cLine) : ∀ {vs ws : List V} {its its2 : List Value}, Vals vs its → Vals ws its2 → Paired (SameV X.K H) vs ws →
    its.length = its2.length ∧ ∀ j (h1 : j < its.length) (h2 : j < its2.length), SeqAt.EqAt X.A.in1 s its[j] its2[j] true
  | _, _, _, _, .nil, .nil, .nil => ⟨rfl, fun j h => absurd h (Nat.not_lt_zero _)⟩
  | _, _, _, _, .cons (b := u1) r1 t1, .cons (b := u2) r2 t2, .cons q t => by
    obtain ⟨e, ih⟩ := same_items I hu t1 t2 t
    refine ⟨by rw [List.length_cons, List.length_cons, e], fun j h1 h2 => ?_⟩
    cases j with
    | succ j => exact ih j (Nat.lt_of_succ_lt_succ h1) (Nat.lt_of_succ_lt_succ h2)
    | zero =>
      show SeqAt.EqAt X.A.in1 s u1 u2 true
      rcases q with ⟨a, e1, e2⟩ | ⟨d, d1, d2, c, dp, ee⟩
      · subst e1 e2
        obtain rfl : u1 = Value.ref a := r1
        obtain rfl : u2 = Value.ref a := r2
        exact SeqAt.EqAt.same _
      · obtain ⟨as, q1⟩ := Dp.reads I d _ _ d1 r1
        obtain ⟨bs, q2⟩ := Dp.reads I d _ _ d2 r2
        have := SeqAt.eqAt_reads d d X.A.in1 s _ _ _ _ q1 q2 c c (by
          have : min d.depth d.depth ≤ d.depth := Nat.min_le_left _ _
          show X.A.units + 1 + min d.depth d.depth < cLine
          omega)
        rw [ee] at this
        exact this
theorem op_eqL (hu : X.A.units + 64 < cLine) : OpR X (compareOp .Eq) (rSameL X.K false) := by
  intro pins s σ H x y v u Q I rx ry h
  obtain ⟨a, b, vs, ws, rfl, rfl, sa, sb, p, q⟩ := h
  obtain rfl : v = Value.ref a := rx
  obtain rfl : u = Value.ref b := ry
  obtain ⟨its, rv, hl, _⟩ := I.list sa
  obtain ⟨its2, rw2, hl2, _⟩ := I.list sb
  obtain ⟨e, he⟩ := same_items I hu rv rw2 p
  refine SeqAt.eq_listAt (e := fun _ => true) hl.isList hl2.isList (by simpa using e) (by omega) (fun j h1 h2 => ?_) ⟨.bl true, H, I, ?_, q⟩
  · simpa using he j (by simpa using h1) (by simpa using h2)
  · show Value.bool _ = Value.bool true
    simp
theorem op_neL (hu : X.A.units + 64 < cLine) : OpR X (compareOp .NotEq) (rSameL X.K true) := by
  intro pins s σ H x y v u Q I rx ry h
  obtain ⟨a, b, vs, ws, rfl, rfl, sa, sb, p, q⟩ := h
  obtain rfl : v = Value.ref a := rx
  obtain rfl : u = Value.ref b := ry
  obtain ⟨its, rv, hl, _⟩ := I.list sa
  obtain ⟨its2, rw2, hl2, _⟩ := I.list sb
  obtain ⟨e, he⟩ := same_items I hu rv rw2 p
  refine SeqAt.RcNeAt.lists (e := fun _ => true) hl.isList hl2.isList (by simpa using e) (by omega) (fun j h1 h2 => ?_) X.prog X.w X.xe _ ⟨.bl false, H, I, ?_, q⟩
  · simpa using he j (by simpa using h1) (by simpa using h2)
  · show Value.bool _ = Value.bool false
    simp
theorem op_neDT (hu : X.A.units + 64 < cLine) : OpR X (compareOp .NotEq) (rDictTup X.K) := by
  intro pins s σ H x y v u Q I rx ry h
  obtain ⟨a, b, ks, ws, rfl, rfl, ha, sb, q⟩ := h
  obtain rfl : v = Value.ref a := rx
  obtain rfl : u = Value.ref b := ry
  obtain ⟨_, _, va, _, o, es, ep, ho, hx, hd, _⟩ := (show ObjOk X.prog X.w H s.heap a (.dK ks) from I.hok a _ ha)
  obtain ⟨its, rv, ht, _⟩ := I.tuple sb
  exact SeqAt.dl_rcNe_dict_tuple ho hx hd ht (by omega) X.prog X.w X.xe _ ⟨.bl true, H, I, rfl, q⟩
/-- an item that may be a dict -/
def itemF (M : Mem) (d : D) : Prop := flatN 8 d = true ∨ ∃ p kvs, d = .obj p ∧ M p = some (.dic kvs)
theorem eqv_self (n : Nat) (d : D) (h : flatN n d = true) : PyData.eqv (toPy d) (toPy d) = true := by
  have lst : ∀ (n : Nat) (h : ∀ d, flatN n d = true → PyData.eqv (toPy d) (toPy d) = true) (xs : List D), flatL n xs = true → PyData.eqvAll (toPyL xs) (toPyL xs) = true := by
    intro n h xs
    induction xs with
    | nil => intro _; rfl
    | cons x xs ih =>
      intro hf
      unfold flatL at hf
      rw [Bool.and_eq_true] at hf
      show (PyData.eqv (toPy x) (toPy x) && PyData.eqvAll (toPyL xs) (toPyL xs)) = true
      rw [h x hf.1, ih hf.2]; rfl
  induction n generalizing d with
  | zero =>
    cases d with
    | non => rfl
    | bl b => cases b <;> rfl
    | int i => show (i == i) = true; exact beq_self_eq_true i
    | str s => show (s == s) = true; exact beq_self_eq_true s
    | _ => simp [flatN] at h
  | succ n ih =>
    cases d with
    | non => rfl
    | bl b => cases b <;> rfl
    | int i => show (i == i) = true; exact beq_self_eq_true i
    | str s => show (s == s) = true; exact beq_self_eq_true s
    | lst xs => exact lst n ih xs (by simpa [flatN] using h)
    | tup xs => exact lst n ih xs (by simpa [flatN] using h)
    | _ => simp [flatN] at h
theorem sameV_reps {G H : Hp} {M : Mem} (e : Same G H) : ∀ {vs ws : List V} {ds : List D}, RepL K G vs ds → RepL K G ws ds → (∀ d ∈ ds, itemF M d) → Paired (SameV K H) vs ws
  | _, _, _, .nil, .nil, _ => .nil
  | _, _, d :: ds, .cons r1 t1, .cons r2 t2, h => by
    refine .cons ?_ (sameV_reps e t1 t2 fun d hd => h d (List.mem_cons_of_mem _ hd))
    rcases h d List.mem_cons_self with hf | ⟨p, kvs, hd, _⟩
    · obtain ⟨a1, b1, c1⟩ := Rep.dp e r1 hf
      obtain ⟨a2, _, _⟩ := Rep.dp e r2 hf
      exact .inr ⟨_, a1, a2, b1, by omega, eqv_self 8 d hf⟩
    · subst hd
      cases r1
      cases r2
      exact .inl ⟨_, rfl, rfl⟩
/-- ==, != : as ever; two lists with the same items; a dict and a tuple -/
def oEqX (neg : Bool) (x y : D) (M : Mem) (Q : QD) : Prop := oEqN neg x y M Q ∨ (∃ ds, res M x = .lst ds ∧ res M y = .lst ds ∧ (∀ d ∈ ds, itemF M d) ∧ Q (.bl (!neg)) M) ∨ (neg = true ∧ ∃ p kvs ts, x = .obj p ∧ M p = some (.dic kvs) ∧ y = .tup ts ∧ Q (.bl true) M)
theorem l_eqX : LOp K (fun x y H Q => rEqA K x y H Q ∨ rSameL K false x y H Q) (oEqX false) := by
  intro x y H G M dx dy Q Q' ok rx ry h hq
  rcases h with h | ⟨ds, e1, e2, hf, h⟩ | ⟨h, _⟩
  · exact .inl (l_eq x y H G M dx dy Q Q' ok rx ry h hq)
  · obtain ⟨a, vs, f1, h1, q1, _⟩ := rx.lstOf ok e1
    obtain ⟨b, ws, f2, h2, q2, _⟩ := ry.lstOf ok e2
    exact .inr ⟨a, b, vs, ws, f1, f2, SqL.of h1, SqL.of h2, sameV_reps ok.sub q1 q2 hf, hq _ _ _ _ _ h ok (Same.refl _) (.bl _)⟩
  · cases h
theorem l_neX : LOp K (fun x y H Q => rNeA K x y H Q ∨ (rSameL K true x y H Q ∨ rDictTup K x y H Q)) (oEqX true) := by
  intro x y H G M dx dy Q Q' ok rx ry h hq
  rcases h with h | ⟨ds, e1, e2, hf, h⟩ | ⟨_, p, kvs, ts, e1, e2, e3, h⟩
  · exact .inl (l_ne x y H G M dx dy Q Q' ok rx ry h hq)
  · obtain ⟨a, vs, f1, h1, q1, _⟩ := rx.lstOf ok e1
    obtain ⟨b, ws, f2, h2, q2, _⟩ := ry.lstOf ok e2
    exact .inr (.inl ⟨a, b, vs, ws, f1, f2, SqL.of h1, SqL.of h2, sameV_reps ok.sub q1 q2 hf, hq _ _ _ _ _ h ok (Same.refl _) (.bl _)⟩)
  · subst e1 e3
    obtain ⟨g, kv, hH, _, _⟩ := ok.mem _ _ e2
    cases rx
    cases ry with
    | tup hg q z => exact .inr (.inr ⟨_, _, _, _, rfl, rfl, hH, SqT.of (ok.sub _ _ hg), hq _ _ _ _ _ h ok (Same.refl _) (.bl _)⟩)
end
section
variable {X : Cx} {W : WX} {a b : Expr} {ta tb : DE} {pos : Pos}
theorem op_eqX (hu : X.A.units + 64 < cLine) : OpR X (compareOp .Eq) (fun x y H Q => rEqA X.K x y H Q ∨ rSameL X.K false x y H Q) := OpR.or (op_eqA hu) (op_eqL hu)
theorem op_neX (hu : X.A.units + 64 < cLine) : OpR X (compareOp .NotEq) (fun x y H Q => rNeA X.K x y H Q ∨ (rSameL X.K true x y H Q ∨ rDictTup X.K x y H Q)) := OpR.or (op_neA hu) (OpR.or (op_neL hu) (op_neDT hu))
theorem pd_eqX (hu : X.A.units + 64 < cLine) (ha : PD X W a ta) (hb : PD X W b tb) : PD X W (.Compare a [.Eq] [b] pos) (dOp (oEqX false) ta tb) := pd_cmp (op_eqX hu) l_eqX ha hb (nomark _)
theorem pd_neX (hu : X.A.units + 64 < cLine) (ha : PD X W a ta) (hb : PD X W b tb) : PD X W (.Compare a [.NotEq] [b] pos) (dOp (oEqX true) ta tb) := pd_cmp (op_neX hu) l_neX ha hb (nomark _)
theorem pdt_eqX (hu : X.A.units + 64 < cLine) (ha : PD X W a ta) (hb : PD X W b tb) : PDT X W (.Compare a [.Eq] [b] pos) (dB (dOp (oEqX false) ta tb)) := pdt_cmp (op_eqX hu) l_eqX ha hb (nomark _)
theorem pdt_neX (hu : X.A.units + 64 < cLine) (ha : PD X W a ta) (hb : PD X W b tb) : PDT X W (.Compare a [.NotEq] [b] pos) (dB (dOp (oEqX true) ta tb)) := pdt_cmp (op_neX hu) l_neX ha hb (nomark _)
/-- {}, a dict that may change -/
def dDic0M : DE := fun _ M Q _ => ∀ p, M p = none → Q (.obj p) (M.set p (.dic []))
theorem pd_dic0M : PD X W (.Dict [] [] pos) dDic0M :=
  PEw pe_dnewK fun σ H Q ⟨G, M, δ, Q', X', ok, sl, h, hq, hx⟩ p hp => hq _ _ _ _ _ (h p (ok.mnone hp)) (ok.write (m := .dic []) (ok.gnone hp) ⟨[], upd_same, rfl, .nil⟩) (Same.refl _) (.obj p)
end
end DL

/-! Raising where an exception is handled whose context may be one more -/
namespace DL
open PySem PySem.Spec PyProof.Rows L2

/-- the handled exception and the end of its chain of contexts -/
def HotA (A : Around) (a : Addr) (h : Heap) : Prop := A.handled = some (.ref a) ∧ ∃ (o : Obj) (vs : Array Value) (c : Value), h.get? a = some o ∧ o.data = .fields vs ∧ vs[2]? = some c ∧
  (c = .none ∨ ∃ (b : Addr) (ob : Obj) (ws : Array Value), c = .ref b ∧ h.get? b = some ob ∧ ob.data = .fields ws ∧ ws[2]? = some .none)
theorem HotA.keep {A : Around} {a : Addr} {h h' : Heap} (x : HotA A a h) (k : ∀ b o, h.get? b = some o → h'.get? b = some o) : HotA A a h' := by
  obtain ⟨hh, o, vs, c, h1, d1, c1, r⟩ := x
  refine ⟨hh, o, vs, c, k _ _ h1, d1, c1, ?_⟩
  rcases r with r | ⟨b, ob, ws, e, h2, d2, c2⟩
  · exact .inl r
  · exact .inr ⟨b, ob, ws, e, k _ _ h2, d2, c2⟩
section
variable {prog : Program} {w : World} {A : Around} {E : Value → Shared → Prop} {s : Shared}
theorem unchainG {x1 a : Addr} {Q : Value → Shared → Prop} (hot : HotA A x1 s.heap) (hn : ∀ o vs b, s.heap.get? x1 = some o → o.data = .fields vs → vs[2]? = some (.ref b) → b ≠ a) (q : Q .none s) :
    wpAny (model prog w) A (holding [Value.ref a] (runValue (.builtin "proto.unchain" ⟨[.ref a, .ref x1, .ref x1, .bool false], []⟩))) Q E s := by
  obtain ⟨hh, o, vs, c, h1, d1, c1, r⟩ := hot
  rcases r with rfl | ⟨b, ob, ws, rfl, h2, d2, c2⟩
  · exact _root_.HotX.unchained h1 d1 c1 q
  · have nba : b ≠ a := hn o vs b h1 d1 c1
    have nb1 : b ≠ x1 := fun e => by
      rw [e, h1] at h2
      cases h2
      rw [d1] at d2
      cases d2
      rw [c1] at c2
      cases c2
    refine wpAny_holding (wpAny_runValue (codeAny_builtin _root_.HotX.entry_unchain ?_))
    show wpAny _ _ (field (.ref x1) 2 >>= _) _ _ s
    refine wpAny_bind (wpAny_field h1 d1 c1 ?_)
    rw [if_neg (show ¬ ((Value.ref b == Value.none) = true) by simp)]
    have e1 : ¬ ((Value.ref b == Value.ref a) = true) := by simp [nba]
    have e2 : ¬ ((Value.ref b == Value.ref x1) = true) := by simp [nb1]
    rw [if_neg e1, if_neg e2, if_neg (show ¬ (false = true) from Bool.false_ne_true)]
    refine wpAny_bind (wpAny_pure (wpAny_pure ⟨Code.quiet_builtin _ (by decide +kernel), codeAny_builtin _root_.HotX.entry_unchain ?_⟩))
    show wpAny _ _ (field (.ref b) 2 >>= _) _ _ s
    refine wpAny_bind (wpAny_field h2 d2 c2 ?_)
    rw [if_pos (show (Value.none == Value.none) = true from rfl)]
    first
    | exact wpAny_bind (wpAny_pure (wpAny_pure q))
    | exact wpAny_pure q
/-- a fresh exception is raised there: its context is the handled one -/
theorem raiseNewG {α : Type} {a x1 : Addr} {oe : Obj} {vs : Array Value} {Q : α → Shared → Prop} (hot : HotA A x1 s.heap) (hne : x1 ≠ a) (hb : ∀ o ws b, s.heap.get? x1 = some o → o.data = .fields ws → ws[2]? = some (.ref b) → b ≠ a) (ha : s.heap.get? a = some oe) (da : oe.data = .fields vs) (hi : 2 < vs.size)
    (hE : E (.ref a) { s with heap := s.heap.update a (Obj.mapFields (·.setIfInBounds 2 (.ref x1))) }) : wpAny (model prog w) A (raiseNew (.ref a) : Sem α) Q E s := by
  unfold raiseNew
  refine wpAny_bind (wpAny_handled ?_)
  rw [hot.1]
  have hn : (Value.ref x1 != Value.ref a) = true := _root_.HotX.ref_bne hne
  first
  | (show wpAny _ _ (if (Value.ref x1 != Value.ref a) = true then _ else _) _ _ _
     rw [if_pos hn]
     first
     | exact wpAny_bind (unchainG hot hb (wpAny_bind (_root_.HotX.chained ha da hi (wpAny_throw hE))))
     | exact wpAny_bind (wpAny_bind (unchainG hot hb (_root_.HotX.chained ha da hi (wpAny_throw hE)))))
  | (refine wpAny_bind ?_
     show wpAny _ _ (if (Value.ref x1 != Value.ref a) = true then _ else _) _ _ _
     rw [if_pos hn]
     exact wpAny_bind (unchainG hot hb (_root_.HotX.chained ha da hi (wpAny_throw hE))))
/-- the end of a range, where an exception is handled -/
theorem range_endG {it x1 : Addr} {x n d : Int} {Q : Option Value → Shared → Prop} (hot : HotA A x1 s.heap) (hr : IsRangeIter s.heap it x n d) (h0 : n ≤ 0)
    (q : ∀ h', (∀ b o, s.heap.get? b = some o → h'.get? b = some o) → Q none { s with heap := h' }) : wpAny (model prog w) A (pyNext (.ref it)) Q E s := by
  have ty : s.TypeIs (.ref it) "range_iterator" := ⟨_, hr, rfl⟩
  obtain ⟨o1, vs1, c1, g1, _⟩ := id hot.2
  have step : ∀ (h' : Heap) (e : Addr), (∀ b o, s.heap.get? b = some o → h'.get? b = some o) → s.heap.get? e = none → x1 ≠ e ∧ HotA A x1 h' ∧ ∀ o ws b, h'.get? x1 = some o → o.data = .fields ws → ws[2]? = some (.ref b) → b ≠ e := fun h' e k ne => by
    refine ⟨(fun z => by rw [← z, g1] at ne; cases ne), hot.keep k, fun o ws b go dw cb z => ?_⟩
    obtain ⟨o2, vs2, c2, g2, d2, e2, r2⟩ := id hot.2
    have k2 := k _ _ g2
    rw [go] at k2
    cases k2
    rw [d2] at dw
    cases dw
    rw [e2] at cb
    cases cb
    rcases r2 with r2 | ⟨b2, ob, ws2, f1, f2, _⟩
    · cases r2
    · cases f1
      rw [z, ne] at f2
      cases f2
  unfold pyNext
  refine wpAny_bind (wpAny_attempt (wpAny_callSpecial?_slot (name := Str.ofString "__next__") ty F.slot_range_iterator_next (wpAny_call_entry F.slot_range_iterator_next ty F.entry_range_iterator_next ?_ (F.args_range_iterator_next_1 _))))
  show wpAny _ _ (field (.ref it) 0 >>= _) _ _ s
  refine wpAny_bind (wpAny_field hr rfl (x := rawInt x) rfl ?_)
  show wpAny _ _ (field (.ref it) 1 >>= _) _ _ s
  refine wpAny_bind (wpAny_field hr rfl (x := rawInt n) rfl ?_)
  show wpAny _ _ (field (.ref it) 2 >>= _) _ _ s
  refine wpAny_bind (wpAny_field hr rfl (x := rawInt d) rfl ?_)
  show wpAny _ _ (if n ≤ 0 then _ else _) _ _ s
  rw [if_pos h0]
  refine wpAny_bind (wpAny_rule (wpAny_bind ?_))
  show wpAny _ _ (newExc (.type "StopIteration") [] >>= _) _ _ _
  refine wpAny_bind ?_
  simp only [newExc, newTuple]
  refine wpAny_bind (wpAny_newObj_type ?_ (by size_fits))
  refine wpAny_bind (m := firstArgMember _ _) (wpAny_of_eq (a := Value.none) (by first | rfl | (simp only [firstArgMember]; rfl)) (wpAny_newObj_type ?_ (by size_fits)))
  have big : s.heap.get? (s.heap.push { cls := .type "tuple", data := .seq #[] }).objs.size = none := by
    cases g : s.heap.get? (s.heap.push { cls := .type "tuple", data := .seq #[] }).objs.size with
    | none => rfl
    | some o =>
      exact absurd (Heap.lt_size g) (by rw [Heap.size_push]; exact Nat.not_lt.mpr (Nat.le_succ _))
  obtain ⟨n1, n2, n3⟩ := step _ _ (fun b o e => Heap.get?_push_of_some { cls := .type "StopIteration", data := .fields (#[Value.ref s.heap.objs.size, .none, .none, .none, .bool false, .none] ++ ownMembersOf (.type "StopIteration") []) } (Heap.get?_push_of_some { cls := .type "tuple", data := .seq #[] } e)) big
  refine raiseNewG n2 n1 n3 (Heap.get?_push_size _ rfl) rfl (by first | (simp; done) | (simp; omega)) ?_
  refine wpAny_bind (wpAny_isInstance (T := "StopIteration") (b := true) ⟨_, Heap.get?_update_self _ (Heap.get?_push_size _ rfl) rfl, rfl⟩ isSubtype_stop (wpAny_pure (q _ fun b o e => ?_)))
  have nb : (s.heap.push { cls := .type "tuple", data := .seq #[] }).objs.size ≠ b := fun z => by rw [← z, big] at e; cases e
  exact (Heap.get?_update_other _ _ nb).trans (Heap.get?_push_of_some _ (Heap.get?_push_of_some _ e))
end
/-! ### a range walked, where an exception is handled -/
section
variable {X : Cx} {tg e : Expr} {ta : TA} {p pos : Pos}
theorem range_itG {pins : List (Addr × Obj)} {σ : L2.St} {H : Hp} {s : Shared} (hg : Gl X "range") (hm : X.mg "range" = none) (ha : PA X [e] ta) (hs : starEach [e] X.env = [(false, eval e X.env)]) (I : Inv X pins σ H s) {R : Int → Hp → Prop}
    (h : ta σ H fun vs H1 => ∃ j : Int, vs = [.int j] ∧ -(2 ^ 62) ≤ j ∧ j < 2 ^ 62 ∧ R j H1) :
    wpAny (model X.prog X.w) X.A (eval (.Call (.Name "range" p) [e] [] pos) X.env) (fun v s1 => wpAny (model X.prog X.w) X.A (pyIter v) (fun itv s2 => ∃ (it : Addr) (j : Int) (H' : Hp), itv = .ref it ∧ Inv X pins σ H' s2 ∧ IsRangeIter s2.heap it 0 (j.toNat : Int) 1 ∧ FpOk X pins H' it ∧ R j H') X.xe s1) X.xe s := by
  refine Call_ (ld_blt I hg hm boot_range (PyProof.Rows.callWith_type1 (thn (ha.run pos pins s σ H _ I h) fun us s1 ⟨vs, H1, I1, r1, j, ev, q1, q2, q⟩ => ?_) hs rfl))
  subst ev
  obtain ⟨u, rfl, t, rfl⟩ : ∃ u, us = [u] ∧ ∃ t, u = Value.int j t := by
    cases r1 with
    | cons r rr => cases rr; obtain ⟨t, z⟩ := r; exact ⟨_, rfl, t, z⟩
  refine call_range_1 (wpAny_pyIter_range (IsRange.new ..) (small_one (a := 0) (b := j) (by omega) (by omega) q1 q2) ?_)
  have J : Inv X pins σ H1 { s1 with heap := s1.heap.push { cls := .type "range", data := .fields #[.int 0 s1.toks, .int j t, .int 1 (s1.toks + 1)] }, toks := s1.toks + 1 + 1 } := I1.kept fun b o z => Heap.get?_push_of_some _ z
  have cnt : Builtin.Range.rangeSize 0 j 1 = ((j.toNat : Nat) : Int) := by rw [rangeSize_one]; split <;> omega
  refine ⟨_, j, H1, rfl, J.kept (t' := s1.toks + 1 + 1) fun b o z => Heap.get?_push_of_some _ z, ?_, J.fpOk (Nat.le_refl _) (J.hok.fresh (Nat.le_refl _)), q⟩
  rw [← cnt]
  exact Heap.get?_push_size _ rfl
/-- what is handled stands in every state -/
def HotI (X : Cx) : Prop := ∀ (pins : List (Addr × Obj)) (σ : L2.St) (H : Hp) (s : Shared), Inv X pins σ H s → ∃ a, HotA X.A a s.heap
theorem ps_forR {g : TG} {tb : TS} {body : List Stmt} {pos2 : Pos} (hp : PassesOwn (model X.prog X.w) X.A X.env X.xe) (hot : HotI X) (hg : Gl X "range") (hm : X.mg "range" = none) (ha : PA X [e] ta) (hgt : PG X tg g) (hb : PSs X body tb)
    (hs : starEach [e] X.env = [(false, eval e X.env)] := by rfl) (hf : ∀ x, foldedSetIterable (.Call (.Name "range" p) [e] [] pos) X.env x = pure x := by intro _; rfl) : PS X (.For tg (.Call (.Name "range" p) [e] [] pos) body [] pos2) (tFor (iRng1 ta) g tb) := by
  refine ⟨fun pins s σ H D I h => ?_⟩
  refine wpAny_For (thn (range_itG hg hm ha hs I h) fun v s1 h1 => thn h1 fun itv s2 ⟨it, j, H2, ev, I2, st2, f2, W, ⟨m0, w0⟩, turn⟩ => ?_) hf
  subst ev
  obtain ⟨fn, fr⟩ := f2
  refine codeAny_forLoop_any (fun n s' => ∃ (i : Nat) (σ' : L2.St) (H' : Hp), Inv X pins σ' H' s' ∧ IsRangeIter s'.heap it (i : Int) ((j.toNat : Int) - (i : Int)) 1 ∧ H' it = none ∧ W i n σ' H') ?_ m0 ⟨0, σ, H2, I2, by simpa using st2, fn, w0⟩
  rintro n s3 ⟨i, σ3, H3, I3, st3, fn3, w3⟩
  rcases turn i n σ3 H3 w3 with ⟨stop, qn⟩ | ⟨go, N, hN, step⟩
  · obtain ⟨x1, hx1⟩ := hot _ _ _ _ I3
    have hle : j.toNat ≤ i := stop
    refine wpAny_passesOwn hp (range_endG hx1 st3 (by omega) fun h' k => ?_)
    obtain ⟨f1, f2, f3, f4, f5⟩ := fr
    exact wpAny_execs_nil ⟨σ3, H3, I3.turned (t' := s3.toks) (fun b o _ z => k b o z) fn3 f1 f3 f4 f5, qn⟩
  · have hlt : i < j.toNat := go
    obtain ⟨f1, f2, f3, f4, f5⟩ := id fr
    refine wpAny_passesOwn hp (wpAny_pyNext_range_item st3 (by omega) fun h' st' sb => ?_)
    have st4 : IsRangeIter h' it ((i + 1 : Nat) : Int) ((j.toNat : Int) - ((i + 1 : Nat) : Int)) 1 := by
      rw [show ((i + 1 : Nat) : Int) = (i : Int) + 1 by omega, show (j.toNat : Int) - ((i : Int) + 1) = (j.toNat : Int) - (i : Int) - 1 by omega]
      exact st'
    have I4 : Inv X pins σ3 H3 { s3 with heap := h', toks := s3.toks + 1 } := I3.turned (fun b o nb z => (sb.2 b nb).trans z) fn3 f1 f3 f4 f5
    have notc : ∃ o, h'.get? it = some o ∧ ∀ v, o.data ≠ .cell v := ⟨_, st4, fun v z => by cases z⟩
    refine wpAny_passesOwn hp (go_of (s := { s3 with heap := h', toks := s3.toks + 1 }) (n := "range_iterator") st4 rfl rfl (by decide) ?_)
    have I5 := I4.pinned (fp := [it]) (fun b hb => by rw [List.mem_singleton.mp hb]; exact ⟨fn3, f1, f2, f3, f4, f5⟩) fun b hb => by rw [List.mem_singleton.mp hb]; exact notc
    refine wpAny_passesOwn hp (thn (hgt.run _ _ σ3 H3 (.int (0 + (i : Int))) _ _ I5 ⟨s3.toks, by rw [Int.zero_add]⟩ (step _ H3 ⟨rfl, rfl⟩)) fun _ s6 ⟨σ6, H6, I6, q6⟩ => ?_)
    refine wpAny_passesOwn hp (thn (hb.run _ s6 σ6 H6 _ I6 q6) fun f s7 q7 => ?_)
    have on : ∀ (σ7 : L2.St) (H7 : Hp), Inv X (pins ++ pinsAt [it] h') σ7 H7 s7 → N σ7 H7 → ∃ m, m < n ∧ ∃ (i : Nat) (σ' : L2.St) (H' : Hp), Inv X pins σ' H' s7 ∧ IsRangeIter s7.heap it (i : Int) ((j.toNat : Int) - (i : Int)) 1 ∧ H' it = none ∧ W i m σ' H' := fun σ7 H7 I7 n7 => by
      obtain ⟨m, hm, w7⟩ := hN σ7 H7 n7
      have pn := I7.pin (it, _) (List.mem_append_right _ (List.mem_append_right _ (mem_pinsAt (List.mem_singleton.mpr rfl) st4)))
      exact ⟨m, hm, i + 1, σ7, H7, I7.unpinned, pn.1, pn.2.1, w7⟩
    cases f with
    | next =>
      obtain ⟨σ7, H7, I7, n7⟩ := q7
      exact on σ7 H7 I7 n7
    | cont =>
      obtain ⟨σ7, H7, I7, n7⟩ := q7
      exact on σ7 H7 I7 n7
    | brk =>
      obtain ⟨σ7, H7, I7, n7⟩ := q7
      exact ⟨σ7, H7, I7.unpinned, n7⟩
    | ret u =>
      obtain ⟨x7, σ7, H7, I7, r7, n7⟩ := q7
      exact ⟨x7, σ7, H7, I7.unpinned, r7, n7⟩
end
end DL

/-! The data layer: defs called in an except suite, with what is known of the exception (its address, its class) -/
namespace DL
open PySem PySem.Spec PyProof.Rows L2

/-- what is handled: the exception at a, of the class at ec; its chain of contexts has an end -/
def HotL (A : Around) (a ec : Addr) (l : List (Addr × Obj)) : Prop := ∃ (oe : Obj) (r : List (Addr × Obj)) (vs : Array Value) (c : Value), l = (a, oe) :: r ∧ A.handled = some (.ref a) ∧ L2.Zc (.ref ec) none oe ∧ oe.data = .fields vs ∧ vs[2]? = some c ∧
  (c = .none ∨ ∃ (b : Addr) (ob : Obj) (ws : Array Value), c = .ref b ∧ (b, ob) ∈ r ∧ ob.data = .fields ws ∧ ws[2]? = some .none)
def HotX (X : Cx) (a ec : Addr) : Prop := ∃ l, HotL X.A a ec l ∧ ∀ p ∈ l, p ∈ X.pn
/-- what a def promises where an exception is handled -/
structure FnG (P : Program) (w : World) (K : PySem.W.Frag) (mg : Str → Option Value) (base : Heap) (CX : Addr → CXT) (k : Nat) (f : Addr) (fd : FuncData) (ps : List Str) (sp : Addr → Addr → Sp) : Prop where
  len : ∀ a ec vs H Q E, sp a ec vs H Q E → vs.length = ps.length
  run : ∀ (A : Around) (outer : List Env) (s : Shared) (H : Hp) (args : Args) (us : List Value) (vs : List V) (Q : VK) (E : XK) (a ec : Addr) (l : List (Addr × Obj)), L2H.RoomH k A → HotL A a ec l → (∀ p ∈ l, L2H.PinOk outer H s p) → Env0 P w K mg base A outer s H →
    BindsTo s fd args (ps.zip us) → Vals vs us → sp a ec vs H Q E → codeAny (model P w) A (.call (.ref f) args) (CR (CX a) outer P w H s Q E) s
/-- the body's context -/
def cxG (CX : CXT) (P : Program) (w : World) (K : PySem.W.Frag) (mg : Str → Option Value) (base : Heap) (N : List Str) (qual : Str) (scope : Scope) (f : Addr) (cd : Value) (A : Around) (outer : List Env) (s : Shared) (H : Hp) (E : XK) (l : List (Addr × Obj)) : Cx :=
  { cxOf CX P w K mg base N qual scope f cd A outer s H E with calm := false, pn := l }
theorem HotL.deeper {A : Around} {a ec : Addr} {l : List (Addr × Obj)} (h : HotL A a ec l) (env : Env) : HotL (A.deeper env) a ec l := h
theorem HotL.x {CX : CXT} {P : Program} {w : World} {K : PySem.W.Frag} {mg : Str → Option Value} {base : Heap} {N : List Str} {qual : Str} {scope : Scope} {f : Addr} {cd : Value} {A : Around} {outer : List Env} {s : Shared} {H : Hp} {E : XK} {a ec : Addr} {l : List (Addr × Obj)}
    (h : HotL A a ec l) : HotX (cxG CX P w K mg base N qual scope f cd A outer s H E l) a ec := ⟨l, h.deeper _, fun _ hp => hp⟩
section
variable {P : Program} {w : World} {K : PySem.W.Frag} {mg : Str → Option Value} {base : Heap}
theorem inv_startG {CX : CXT} {N ps : List Str} {qual : Str} {scope : Scope} {f : Addr} {cd : Value} {A : Around} {outer : List Env} {s s1 : Shared} {H : Hp} {E : XK} {us : List Value} {vs : List V} {a ec : Addr} {l : List (Addr × Obj)}
    (S : FnScope N ps scope) (hot : HotL A a ec l) (hpin : ∀ p ∈ l, L2H.PinOk outer H s p) (e0 : Env0 P w K mg base A outer s H) (hl : vs.length = ps.length) (r : Vals vs us)
    (x : InCallC s s.heap.objs.size (bindL (envOfC qual scope s.heap.objs.size f cd).kindOf (ps.zip us) fun _ => none) (cellsFrom (s.heap.objs.size + 1) scope.names []) (bindC (envOfC qual scope s.heap.objs.size f cd).kindOf (ps.zip us) fun _ => none) s1) :
    Inv (cxG CX P w K mg base N qual scope f cd A outer s H E l) [] (L2.start N vs) H s1 := by
  obtain ⟨oe, r0, vs0, c, hl0, _⟩ := id hot
  have I := L2H.inv_startH (CX := CX) (E := E) S (hpin (a, oe) (by rw [hl0]; exact List.mem_cons_self)) e0 hl r x
  obtain ⟨h1, tk, rfl, hk⟩ := x.done
  exact ⟨I.ok.toTry l _, I.os, I.bare, I.base, I.loc, I.cell, I.free, I.freeC, fun q hq => by
    have hp := hpin q (by
      have z : q ∈ l ++ [] := hq
      rwa [List.append_nil] at z)
    exact ⟨hk q.1 q.2 hp.get, hp.free, Nat.ne_of_lt (Heap.lt_size hp.get), hp.nofs, hp.nocell⟩, I.hok, I.len⟩
theorem fn_ofG {CX : Addr → CXT} {x qual : Str} {st : Stmt} {f : Addr} {fd : FuncData} {N ps : List Str} {k : Nat} {sp : Addr → Addr → Sp} (F : Fun K x qual st f fd) (S : FnScope N ps (defScope st)) (len : ∀ a ec vs H Q E, sp a ec vs H Q E → vs.length = ps.length)
    (hbody : ∀ (cdv : Value) (A : Around) (outer : List Env) (s : Shared) (H : Hp) (vs : List V) (Q : VK) (E : XK) (a ec : Addr) (l : List (Addr × Obj)), HotL A a ec l → L2H.RoomH k (A.deeper (envOfC qual (defScope st) s.heap.objs.size f cdv)) → sp a ec vs H Q E →
      ∃ t, PSs (cxG (CX a) P w K mg base N qual (defScope st) f cdv A outer s H E l) (defBody st) t ∧ t { nx := fun _ H' => Q .non H', rt := Q } (L2.start N vs) H) : FnG P w K mg base CX (k + 1) f fd ps sp := by
  obtain ⟨oc, od, kV, doc, pm, an, cdv, ct, osl, rfl, lk, hcd⟩ := F.ex
  refine ⟨len, fun A outer s H args us vs Q E a ec l hr hot hpin e0 hb r hsp => ?_⟩
  have hl := len _ _ _ _ _ _ hsp
  have KX : K.In s.heap := e0.mod.kin.keeps fun b o e => (e0.bs b o e).1
  have hkind : ∀ y ∈ ps.zip us, (defScope st).names.lookup y.1 = some .local ∨ ((defScope st).names.lookup y.1 = some .cell ∧ ((cellsFrom (s.heap.objs.size + 1) (defScope st).names []).lookup y.1).isSome = true) := fun ⟨n, v⟩ hy =>
    (S.par n (List.of_mem_zip hy).1).imp id fun q => ⟨q, PySem.W.cellsFrom_some _ _ _ (.inl q)⟩
  refine codeAny_call_function hr.depth (KX _ _ lk) rfl S.co S.gen rfl (PySem.W.codeRec_of KX hcd) (hb _ _ _ _ (wpAny_newFunctionEnv_cells S.kind hkind fun env he s1 x => ?_))
  subst he
  refine ⟨(e0.mod.nolimit.keeps fun b o e => (e0.bs b o e).1).keeps x.toInCall.keep, codeAny_func ?_⟩
  obtain ⟨t, ht, hq⟩ := hbody cdv A outer s H vs Q E a ec l hot (hr.deeper _) hsp
  refine wpAny_mono (ht.run [] s1 _ H _ (inv_startG S hot hpin e0 hl r x) hq) (fun fl s' hs => ?_) fun e s' hs => hs
  cases fl with
  | ret u =>
    obtain ⟨v, σ', H', J, rv, q⟩ := hs
    exact ⟨v, H', J.os, J.bare, J.base, J.hok, rv, q⟩
  | next =>
    obtain ⟨σ', H', J, q⟩ := hs
    exact ⟨V.non, H', J.os, J.bare, J.base, J.hok, rfl, q⟩
  | brk =>
    obtain ⟨_, _, _, q⟩ := hs
    exact q.elim
  | cont =>
    obtain ⟨_, _, _, q⟩ := hs
    exact q.elim
end

/-! ### over data -/
def spG (K : PySem.W.Frag) (m : Addr → Addr → FDm) : Addr → Addr → Sp := fun a ec => spD K (m a ec)
abbrev FnGD (P : Program) (w : World) (K : PySem.W.Frag) (mg : Str → Option Value) (base : Heap) (CX : Addr → CXT) (k : Nat) (f : Addr) (fd : FuncData) (ps : List Str) (m : Addr → Addr → FDm) : Prop := FnG P w K mg base CX k f fd ps (spG K m)
section
variable {P : Program} {w : World} {K : PySem.W.Frag} {mg : Str → Option Value} {base : Heap} {CX : Addr → CXT}
theorem okG {x qual : Str} {st : Stmt} {f : Addr} {fd : FuncData} {N ps : List Str} {k : Nat} {m : Addr → Addr → FDm} {t : Addr → Addr → DSt} (F : Fun K x qual st f fd) (S : FnScope N ps (defScope st)) (len : ∀ a ec ds M Q X, m a ec ds M Q X → ds.length = ps.length) (hn : ps.length ≤ N.length)
    (der : ∀ (cdv : Value) (A : Around) (outer : List Env) (s : Shared) (H : Hp) (E : XK) (a ec : Addr) (l : List (Addr × Obj)), HotL A a ec l → L2H.RoomH k (A.deeper (envOfC qual (defScope st) s.heap.objs.size f cdv)) →
      PDSs (cxG (CX a) P w K mg base N qual (defScope st) f cdv A outer s H E l) (WE0 E) (defBody st) (t a ec))
    (read : ∀ a ec ds M Q X, m a ec ds M Q X → t a ec (bodyE Q X) (startD N.length ds) M) : FnGD P w K mg base CX (k + 1) f fd ps m := by
  refine fn_ofG F S (fun a ec vs H Q E ⟨G, M, ds, Q', X', ok, r, h, _, _⟩ => by rw [r.len]; exact len _ _ _ _ _ _ h) fun cdv A outer s H vs Q E a ec l hot hr ⟨G, M, ds, Q', X', ok, r, h, hq, hx⟩ => ?_
  refine ⟨_, der cdv A outer s H E a ec l hot hr, G, M, startD N.length ds, _, ok, ?_, read a ec ds M Q' X' h, ?_⟩
  · have hl := r.len
    rw [len _ _ _ _ _ _ h] at hl
    exact start_slots N.length r (by rw [hl]; exact hn)
  · refine ⟨fun δ M1 σ H1 G1 ⟨M2, s2, q⟩ ok1 e1 sl1 => hq .non M2 .non H1 G1 q (ok1.weak s2) e1 .non, fun d M1 v H1 G1 ⟨M2, s2, q⟩ ok1 e1 r1 => hq d M2 v H1 G1 q (ok1.weak s2) e1 r1, fun _ _ _ _ _ z => z.elim, fun _ _ _ _ _ z => z.elim, fun cls δ M1 σ H1 G1 ⟨M2, s2, q⟩ ok1 e1 sl1 => hx cls M2 H1 G1 q (ok1.weak s2) e1⟩
end
def HasG (P : Program) (w : World) (K : PySem.W.Frag) (mg : Str → Option Value) (base : Heap) (CX : Addr → CXT) (x : Str) (ps : List Str) (k : Nat) (m : Addr → Addr → FDm) : Prop := ∃ (f : Addr) (fd : FuncData), mg x = some (.ref f) ∧ PySem.W.keepIn K (.ref f) = true ∧ Binds K fd ps [] ∧ FnGD P w K mg base CX k f fd ps m
section
variable {X : Cx} {W : WX} {CX : Addr → CXT} {k : Nat} {f a ec : Addr} {fd : FuncData} {ps : List Str} {m : Addr → Addr → FDm} {x : Str} {p pos : Pos} {e : Expr} {es : List Expr} {t : DA}
theorem run_fnG {sp : Addr → Addr → Sp} {E : XK} {pins : List (Addr × Obj)} {σ : L2.St} {H : Hp} {s : Shared} {Q : VK} {us : List Value} {vs : List V} (F : FnG X.prog X.w X.K X.mg X.base CX k f fd ps sp) (hr : L2H.RoomH k X.A) (hc : HotX X a ec) (hb : Binds X.K fd ps []) (hx : PassesAt (CX a) X σ E)
    (I : Inv X pins σ H s) (r : Vals vs us) (h : sp a ec vs H Q E) : wpAny (model X.prog X.w) X.A (call (.ref f) us) (EP X pins σ Q) X.xe s := by
  obtain ⟨l, hot, hp⟩ := hc
  have b := hb s us I.kIn (by rw [List.append_nil, ← r.length]; exact F.len _ _ _ _ _ _ h)
  rw [List.append_nil] at b
  have hpin : ∀ q ∈ l, L2H.PinOk X.stack H s q := fun q hq => by
    have P1 := I.pin q (List.mem_append_left _ (hp q hq))
    exact ⟨P1.1, P1.2.1, fun hm => (List.mem_cons.mp (I.stkSub q.1 hm)).elim P1.2.2.1 P1.2.2.2.1, P1.2.2.2.2⟩
  refine wpAny_call (codeAny_mono (F.run X.A X.stack s H ⟨us, []⟩ us vs Q E a ec l hr hot hpin I.env0 b r h) fun r s' hq => ?_)
  match r, hq with
  | .error e, hq => exact hx pins H s e s' I hq
  | .ok (.ret u), hq => exact I.after hq
theorem pd_callG (hc : HotX X a ec) (F : HasG X.prog X.w X.K X.mg X.base CX x ps k m) (hr : L2H.RoomH k X.A) (hx : ∀ σ, PassesAt (CX a) X σ (WE W σ)) (hg : Gl X x)
    (ha : PDA X W (e :: es) t) (hdb : (x == ("__debug__" : Str)) = false := by decide) (he : starEach (e :: es) X.env = (false, eval e X.env) :: starEach es X.env := by rfl) (hpl : (backTo pos (starEach es X.env)).any (·.1) = false := by rfl) :
    PD X W (.Call (.Name x p) (e :: es) [] pos) (dFn (m a ec) t) := by
  obtain ⟨f, fd, hm, hk, hb, F⟩ := F
  have base : PE X (.Call (.Name x p) (e :: es) [] pos) (tCallS (spG X.K m a ec) (fun σ => WE W σ) (upA X.K W t)) := by
    refine ⟨fun pins s σ H Q I h => ?_⟩
    refine wpAny_Call_Name_kw (ld_glob I hg hm ?_ hdb)
    exact PySem.W.callWith_K (h₀ := X.base) I.ok.mod.kin hk (thn (ha.run pos pins s σ H _ I h) fun us s1 ⟨vs, H1, I1, r, q⟩ => ⟨I1.kIn, run_fnG F hr hc hb (hx σ) I1 r q⟩) he hpl
  exact PEw base fun σ H Q ⟨G, M, δ, Q', X', ok, sl, h, hq, hx⟩ => ⟨G, M, δ, _, X', ok, sl, h, fun ds M1 vs H1 G1 h1 ok1 e1 r1 =>
    ⟨G1, M1, ds, Q', _, ok1, r1, h1, fun d M2 v H2 G2 h2 ok2 e2 r2 => hq _ _ _ _ _ h2 ok2 (e1.trans e2) r2, fun cls M2 H2 G2 h2 ok2 e2 => hx _ _ _ _ _ _ h2 ok2 (e1.trans e2) (sl.mono (e1.trans e2))⟩, hx⟩
end
/-- nothing raised goes on from a suite -/
theorem passN0 {X : Cx} {σ : L2.St} : PassesAt (L2N.CX X.prog X.w) X σ (WE W0 σ) := fun _ _ _ _ _ _ ⟨_, _, _, _, _, _, _, _, _, _, _, _, z⟩ => z.elim
/-- the suite of try .. except .. as e, the exception raised where nothing was handled -/
theorem hot_suite {X : Cx} {a ec : Addr} {oe : Obj} {pn : List (Addr × Obj)} (hz : L2N.Zn (.ref ec) none oe) (hf : ∃ vs, oe.data = .fields vs) : HotX (X.suite a ((a, oe) :: pn)) a ec :=
  let ⟨vs, hv⟩ := hf
  ⟨[(a, oe)], ⟨oe, [], vs, .none, rfl, rfl, hz.zc, hv, hz.2.2 vs hv, .inl rfl⟩, fun p hp => by
    rw [List.mem_singleton.mp hp]
    exact List.mem_cons_self⟩
theorem call_isEG {X : Cx} {a ec : Addr} (hc : HotX X a ec) : CallR X (.builtin "isinstance") (rIsEA X.K ec a) := by
  obtain ⟨l, ⟨oe, r, vs, c, hl, hh, hz, hv, _⟩, hp⟩ := hc
  intro pins s σ H xs us Q I rr ⟨C, h⟩
  have hm : (a, oe) ∈ X.pn := hp _ (by rw [hl]; exact List.mem_cons_self)
  obtain ⟨hget, _⟩ := I.pin (a, oe) (List.mem_append.mpr (.inl hm))
  have J : PySem.W.InstAt s.heap a oe ec none := by
    obtain ⟨oc, od, oda, osl⟩ := oe
    obtain ⟨h1, h2⟩ := hz
    dsimp only at h1 h2 hv
    subst h1 h2 hv
    exact ⟨hget, rfl, rfl, trivial⟩
  rcases h with ⟨cc, cv, b, rfl, hcv, e, q⟩ | ⟨tp, cs, b, rfl, hT, e, q⟩
  · cases rr with
    | cons rx rr =>
      cases rr with
      | cons rt rr =>
        cases rr
        cases rx
        cases hcv _ rt
        exact PySem.W.kia_one (PySem.W.handS_kitx_exc C.hg C.hk C.hs C.hd C.ha C.hn C.ht C.hm) I.kIn J e (fun z => nomatch z) fun tk => ⟨.bl b, H, I.kept (t' := tk) fun _ _ z => z, rfl, q⟩
  · cases rr with
    | cons rx rr =>
      cases rr with
      | cons rt rr =>
        cases rr
        cases rx
        cases rt
        obtain ⟨its, rv, ⟨o, h1, h2, n, h3⟩, _⟩ := I.tuple hT
        obtain ⟨oc, od, dt, sl⟩ := o
        simp only at h2 h3
        subst h2 h3
        exact PySem.W.kia_tup (PySem.W.handS_kitx_exc C.hg C.hk C.hs C.hd C.ha C.hn C.ht C.hm) I.kIn J h1 (e its rv) (fun z => nomatch z) fun tk => ⟨.bl b, H, I.kept (t' := tk) fun _ _ z => z, rfl, q⟩
theorem hu_ofG {A : Around} {k : Nat} (hr : L2H.RoomH k A) : A.units + 1 < cLine := by have := hr.un; omega
theorem hw_ofG {A : Around} {k : Nat} (hr : L2H.RoomH k A) : A.units + 64 < cLine := by have := hr.un; omega
/-- {k: v} -/
def dDis1 (tk tv : DE) : DE := fun δ M Q X => ∀ p, M p = none → tk δ (M.set p (.dic [])) (fun k M1 => ∃ z, k = .str z ∧ tv δ M1 (fun v M2 => M2 p = some (.dic []) ∧ Q (.obj p) (M2.set p (.dic [(z, v)]))) X) X
theorem pd_dis1 {X : Cx} {W : WX} {k v : Expr} {tk tv : DE} {pos : Pos} (hk : PD X W k tk) (hv : PD X W v tv) : PD X W (.Dict [some k] [v] pos) (dDis1 tk tv) :=
  PEw (pe_disp (pps_cons hk hv pps_nil) rfl rfl (fun z => nomatch z) (by simp)) fun σ H Q ⟨G, M, δ, Q', X', ok, sl, h, hq, hx⟩ p hp => by
    have gp := ok.gnone hp
    have ok0 := ok.write (o := .dK []) (m := .dic []) gp ⟨[], upd_same, rfl, .nil⟩
    refine ⟨G, _, δ, _, X', ok0, sl, h p (ok.mnone hp), fun d M1 x H1 G1 ⟨z, ez, h1⟩ ok1 e1 r1 => ⟨G1, M1, δ, _, X', ok1, sl.mono e1, h1, fun d2 M2 y H2 G2 ⟨m2, h2⟩ ok2 e2 r2 => ?_, hx.mono e1⟩, hx⟩
    subst ez
    cases r1
    obtain ⟨g1, kv0, f2, f3, _⟩ := ok2.mem _ _ m2
    have z0 : kv0 = [] := by cases kv0 with
      | nil => rfl
      | cons _ _ => cases f3
    subst z0
    exact ⟨f2, [(Sum.inr z, y)], rfl, by simp, hq _ _ _ _ _ h2 (ok2.write (m := .dic [(z, d2)]) g1 ⟨[(Sum.inr z, y)], upd_same, rfl, .cons r2 .nil⟩) (e1.trans e2) (.obj p)⟩

/-! ### for over range -/
theorem HotX.i {X : Cx} {a ec : Addr} (h : DL.HotX X a ec) : HotI X := fun pins σ H s I => by
  obtain ⟨l, ⟨oe, r, vs, c, hl, hh, hz, hv, hc, hr⟩, hp⟩ := h
  have at_ : ∀ q ∈ l, s.heap.get? q.1 = some q.2 := fun q hq => (I.pin q (List.mem_append_left _ (hp q hq))).1
  refine ⟨a, hh, oe, vs, c, at_ (a, oe) (by rw [hl]; exact List.mem_cons_self), hv, hc, ?_⟩
  rcases hr with hr | ⟨b, ob, ws, e, hm, d, n⟩
  · exact .inl hr
  · exact .inr ⟨b, ob, ws, e, at_ (b, ob) (by rw [hl]; exact List.mem_cons_of_mem _ hm), d, n⟩
theorem pds_forG {X : Cx} {W : WX} {tg e : Expr} {t : DA} {p pos pos2 : Pos} {a ec : Addr} {body : List Stmt} {g : DG} {tb : DSt} (hp : PassesOwn (model X.prog X.w) X.A X.env X.xe) (hc : DL.HotX X a ec) (hg : Gl X "range") (hm : X.mg "range" = none) (ha : PDA X W [e] t) (hgt : PDG X tg g) (hb : PDSs X W body tb)
    (hs : starEach [e] X.env = [(false, eval e X.env)] := by rfl) (hf : ∀ x, foldedSetIterable (.Call (.Name "range" p) [e] [] pos) X.env x = pure x := by intro _; rfl) : PDS X W (.For tg (.Call (.Name "range" p) [e] [] pos) body [] pos2) (dFor (dRange1 t) g tb) :=
  PSw (ps_forR hp hc.i hg hm ha hgt hb hs hf) fun D σ H h => range_up σ H _ (for_up D σ H h)
end DL

/-! Exceptions whose context's value is told -/
namespace DL
open PySem PySem.Spec PyProof.Rows L2

/-- class, dict, and the context's value -/
def Zv (cv cls : Value) (d : Option Addr) : Obj → Prop := fun o => L2.Zc cls d o ∧ ∀ vs : Array Value, o.data = .fields vs → vs[2]? = some cv
theorem Zv.steady {cv cls : Value} {d : Option Addr} : PXN.Steady1 (Zv cv cls d) := by
  intro o v h
  refine ⟨⟨PXN.steady_cls o v h.1.1, PXN.steady_dict o v h.1.2⟩, ?_⟩
  obtain ⟨k, q, dt, sl⟩ := o
  cases dt with
  | fields us =>
    intro vs e
    obtain rfl : us.setIfInBounds 1 v = vs := Data.fields.inj e
    have z := h.2 us rfl
    rw [← z]
    simp [Array.getElem?_setIfInBounds]
  | _ => intro vs e; exact Data.noConfusion e
/-- an exception in the air of X, its context's value told -/
def XEv (cv : Value) (X : Cx) (W : WX) (u : Value) (s' : Shared) : Prop :=
  ∃ (a : Addr) (B : Heap) (sI : Shared) (pins : List (Addr × Obj)) (σ : L2.St) (H : Hp) (cls : Value) (d : Option Addr), u = .ref a ∧ Inv X pins σ H sI ∧ (∀ b o, sI.heap.get? b = some o → b ∉ frs X.stack → B.get? b = some o) ∧
    sI.heap.UpToSlots s'.heap ∧ Sky B X.stack a (Zv cv cls d) X.env.locals s'.heap ∧ H a = none ∧ s'.os = sI.os ∧ AllBare s'.gens ∧ W cls d σ H
def TakesV (cv : Value) (X : Cx) (W : WX) : Prop := ∀ u s', XEv cv X W u s' → X.xe u s'
def CXv (P : Program) (w : World) (cv : Value) : CXT := fun outer H s E u s' =>
  ∃ (a : Addr) (B : Heap) (H' : Hp) (cls : Value) (d : Option Addr), u = .ref a ∧ HandSPX.FlyingZ B outer a (Zv cv cls d) s'.heap ∧ HOk P w H' B ∧ UB (frs outer) H H' s.heap B s'.heap ∧ H' a = none ∧ s'.os = s.os ∧ AllBare s'.gens ∧ E cls d H'
theorem traced_up {h B : Heap} {a : Addr} {Z Z' : Obj → Prop} {fl : Value} (k : ∀ o, h.get? a = some o → Z o → Z' o) (x : HandSPX.TracedZ h B a Z fl) : HandSPX.TracedZ h B a Z' fl := by
  obtain ⟨oe, vs, T, oT, ts, he, hz, r⟩ := x
  exact ⟨oe, vs, T, oT, ts, he, k oe he hz, r⟩
theorem sky_up {B h : Heap} {l : List Env} {a L : Addr} {Z Z' : Obj → Prop} (k : ∀ o, h.get? a = some o → Z o → Z' o) (x : Sky B l a Z L h) : Sky B l a Z' L h := by
  rcases x with ⟨h1, h2, h3, oe, vs, he, hz, r⟩ | ⟨h1, h2, h3, t⟩ | ⟨h1, h2, h3, t⟩
  · exact .inl ⟨h1, h2, h3, oe, vs, he, k oe he hz, r⟩
  · exact .inr (.inl ⟨h1, h2, h3, traced_up k t⟩)
  · exact .inr (.inr ⟨h1, h2, h3, traced_up k t⟩)
/-- the context of the object at u is cv -/
def CtxAt (cv u : Value) (h : Heap) : Prop := ∀ (a : Addr) (o : Obj) (vs : Array Value), u = .ref a → h.get? a = some o → o.data = .fields vs → vs[2]? = some cv
theorem XEv.of {cv : Value} {X : Cx} {W : WX} {u : Value} {s' : Shared} (x : L2.XE X W u s') (c : CtxAt cv u s'.heap) : XEv cv X W u s' := by
  obtain ⟨a, B, sI, pins, σ, H, cls, d, e, I, nb, up, sky, r⟩ := x
  exact ⟨a, B, sI, pins, σ, H, cls, d, e, I, nb, up, sky_up (fun o g z => ⟨z, fun vs dv => c a o vs e g dv⟩) sky, r⟩
theorem XEv.of_call {cv : Value} {X : Cx} {pins : List (Addr × Obj)} {σ : L2.St} {H : Hp} {s s' : Shared} {W : WX} {E : XK} (I : Inv X pins σ H s) (hW : ∀ cls d H', E cls d H' → W cls d σ H') {u : Value} (c : CXv X.prog X.w cv X.stack H s E u s') : XEv cv X W u s' := by
  obtain ⟨a, B, H', cls, d, eu, ⟨f1, f2, f3, ft⟩, r⟩ := c
  refine XEv.of (L2.XE.of_call I hW ⟨a, B, H', cls, d, eu, ⟨f1, f2, f3, traced_up (fun _ _ z => z.1) ft⟩, r⟩) fun b o vs e g dv => ?_
  rw [eu] at e
  cases e
  obtain ⟨oe, _, _, _, _, he, hz, _⟩ := ft
  rw [g] at he
  cases he
  exact hz.2 vs dv
/-- it leaves the def: what L2 says of the way out, and the context as it was -/
theorem leave_ctx {cv : Value} {X : Cx} {B : Heap} {a : Addr} {cls : Value} {d : Option Addr} {s' : Shared} {E₁ : Value → Shared → Prop} {Q : Unit → Shared → Prop} (hs : X.stack = X.env :: X.outer) (hf : X.env.frame = some X.env.locals) (fr : X.A.frames = some X.stack)
    (sky : Sky B X.stack a (Zv cv cls d) X.env.locals s'.heap) (q : ∀ h', HandSPX.FlyingZ B X.outer a (Zv cv cls d) h' → s'.heap.UpToSlots h' → Q () { s' with heap := h' }) : wpAny (model X.prog X.w) X.A (leaving X.env (.ref a)) Q E₁ s' := by
  rw [hs] at sky fr
  rcases sky with ⟨b1, b2, b3, oe, vs, he, hz, hd, h1⟩ | fl | hd
  · exact PXN.leaving_firstZ Zv.steady fr b3 hf he b1 b2 hd h1 hz q
  · exact PXN.leaves_onZ Zv.steady fr hf fl q
  · exact HandSPX.leaves_heldZ hf hd q
end DL

/-! Exceptions whose context's value is told: they leave a def, are raised, caught, made where one is handled -/
namespace DL
open PySem PySem.Spec PyProof.Rows L2

section
variable {cv : Value} {X : Cx} {W : WX} {E : XK} {u : Value} {s' : Shared} {E₁ : Value → Shared → Prop}
theorem XEv.leave (hs : X.stack = X.env :: X.outer) (hf : X.env.frame = some X.env.locals) (hex : X.ex = []) (hW : ∀ cls d σ H, W cls d σ H → E cls d H) (x : XEv cv X W u s') :
    wpAny (model X.prog X.w) X.A (leaving X.env u) (fun _ s2 => CXv X.prog X.w cv X.outer X.H_0 X.s_0 E u s2) E₁ s' := by
  obtain ⟨a, B, sI, pins, σ, H, cls, d, eu, I, nb, up, sky, na, os, ag, w⟩ := x
  subst eu
  have old : ∀ b o, X.s_0.heap.get? b = some o → b ∉ X.fs → b ∉ frs X.stack := fun b o g n m => (List.mem_cons.mp (I.stkSub b m)).elim (fun z => by
    have lt := Heap.lt_size g
    rw [z] at lt
    exact Nat.not_lt.mpr I.ok.above lt) n
  have nex : ∀ b, b ∉ X.ex := fun b => by rw [hex]; exact List.not_mem_nil
  refine leave_ctx hs hf I.ok.frames sky fun h2 fl up2 => ⟨a, B, H, cls, d, rfl, fl, I.inGround nb, ?_, na, os.trans I.os, ag, hW _ _ _ _ w⟩
  refine ⟨fun b o g n f => nb b o (I.base.keep b o g n f (nex b)) (old b o g f), fun b o g m => ?_, fun b o g n => I.base.free b o g n (nex b), fun b o g f => ?_, I.base.tups, I.base.frzs, I.base.tbls⟩
  · obtain ⟨_, o0, g0, nfl⟩ := I.ok.funs.mem m
    rw [g] at g0
    cases g0
    obtain ⟨_, g1⟩ := I.base.slot b o g (I.ok.frf b m) m (nex b)
    obtain ⟨_, g2⟩ := up b _ g1 nfl
    obtain ⟨sl, g3⟩ := up2 b _ g2 nfl
    exact ⟨sl, g3⟩
  · obtain ⟨o1, g1⟩ := I.base.there b o g (nex b)
    exact ⟨o1, nb b o1 g1 (old b o g f)⟩
theorem takesV_of (hs : X.stack = X.env :: X.outer) (hf : X.env.frame = some X.env.locals) (hex : X.ex = [])
    (hx : X.xe = fun e s1 => wpAny (model X.prog X.w) X.A (leaving X.env e) (fun _ s2 => CXv X.prog X.w cv X.outer X.H_0 X.s_0 E e s2) E₁ s1) : TakesV cv X (fun cls d _ H => E cls d H) := fun u s1 x => by
  rw [hx]
  exact XEv.leave hs hf hex (fun _ _ _ _ h => h) x
theorem passAtV (tk : TakesV cv X W) (σ : L2.St) : PassesAt (CXv X.prog X.w cv) X σ (WE W σ) := fun _ _ _ e s1 I c => tk e s1 (XEv.of_call I (fun _ _ _ h => h) c)
theorem passV0 {σ : L2.St} : PassesAt (CXv X.prog X.w cv) X σ (WE W0 σ) := fun _ _ _ _ _ _ ⟨_, _, _, _, _, _, _, _, _, _, _, _, z⟩ => z.elim
theorem XEv.new {pins : List (Addr × Obj)} {σ : L2.St} {H : Hp} {sI : Shared} {a : Addr} {oe : Obj} {vs : Array Value} {cls : Value} {d : Option Addr} (I : Inv X pins σ H sI) (k : ∀ b o, sI.heap.get? b = some o → s'.heap.get? b = some o)
    (hne : sI.heap.get? a = none) (he : s'.heap.get? a = some oe) (hz : Zv cv cls d oe) (hd : oe.data = .fields vs) (h1 : vs[1]? = some .none) (na : H a = none) (os : s'.os = sI.os) (ag : AllBare s'.gens) (w : W cls d σ H) : XEv cv X W (.ref a) s' :=
  XEv.of (L2.XE.new I k hne he hz.1 hd h1 na os ag w) fun b o ws e g dw => by
    cases e
    rw [he] at g
    cases g
    exact hz.2 ws dw
end

/-! ### raise where an exception is handled -/
theorem raise_madeG {prog : Program} {w : World} {A : Around} {E : Value → Shared → Prop} {env : Env} {s : Shared} {x : Sem Value} {Q : Flow → Shared → Prop} {x1 : Addr}
    (h : wpAny (model prog w) A x (fun v s1 => ∃ (a : Addr) (oe : Obj) (vs : Array Value) (cls : Value), v = .ref a ∧ s1.heap.get? a = some oe ∧ oe.cls = cls ∧ oe.data = .fields vs ∧ vs[1]? = some .none ∧ 2 < vs.size ∧ x1 ≠ a ∧ HotA A x1 s1.heap ∧
      (∀ o ws b, s1.heap.get? x1 = some o → o.data = .fields ws → ws[2]? = some (.ref b) → b ≠ a) ∧ PySem.W.Looks (model prog w) s1.heap (isSubtype cls (.type "BaseException")) true ∧
      PySem.W.Looks (model prog w) s1.heap (typeOf cls) (.type "type") ∧ E (.ref a) { s1 with heap := s1.heap.update a (Obj.mapFields (·.setIfInBounds 2 (.ref x1))) }) E s) : wpAny (model prog w) A (raiseStmt env (some x) none) Q E s := by
  unfold raiseStmt
  dsimp only
  refine wpAny_bind (wpAny_mono h (fun v s1 q => ?_) fun _ _ z => z)
  obtain ⟨a, oe, vs, cls, ev, ha, hcls, hd, h1, hi, hne, hot, hnb, L1, L3, hE⟩ := q
  subst ev
  have ty : PySem.W.Looks (model prog w) s1.heap (typeOf (.ref a)) cls := fun A Q E s2 k q => wpAny_typeOf_ref (k _ _ ha) (by rw [hcls]; exact q)
  have isE : PySem.W.Looks (model prog w) s1.heap (isInstance (.ref a) (.type "BaseException")) true := ty.andThen L1
  have notT : ∀ {Q' : Bool → Shared → Prop}, Q' false s1 → wpAny (model prog w) A (isType (.ref a)) Q' E s1 := by
    intro Q' q
    simp only [isType, loadHead]
    refine wpAny_bind (wpAny_loadPart ha ?_); rw [hd]; exact wpAny_pure q
  refine wpAny_bind (wpAny_pure ?_); dsimp only; refine wpAny_bind (wpAny_holding ?_)
  unfold excFromValue isExcClass
  refine wpAny_bind (wpAny_bind (notT ?_))
  simp only [Bool.false_eq_true, if_false]
  refine wpAny_pure ?_
  simp only [Bool.false_eq_true, if_false]
  refine wpAny_bind (isE.here ?_)
  simp only [if_true]
  refine wpAny_pure ?_
  refine wpAny_bind (notT ?_)
  simp only [Bool.false_eq_true, if_false]
  unfold raisedInstance
  refine wpAny_bind (wpAny_bind (ty.here (wpAny_bind (L3.here ?_)))); rw [if_pos (beq_self_eq_true _)]
  refine wpAny_pure ?_
  unfold setFlight
  refine wpAny_bind (wpAny_bind (wpAny_field ha hd h1 ?_)); rw [if_neg (by decide)]
  exact wpAny_pure (raiseNewG hot hne hnb ha hd hi hE)
theorem HotX.at {X : Cx} {a ec : Addr} {pins : List (Addr × Obj)} {σ : L2.St} {H : Hp} {s : Shared} (h : DL.HotX X a ec) (I : Inv X pins σ H s) : HotA X.A a s.heap := by
  obtain ⟨a2, h2⟩ := h.i pins σ H s I
  obtain ⟨l, ⟨_, _, _, _, _, hh, _⟩, _⟩ := h
  have e := h2.1
  rw [hh] at e
  cases e
  exact h2
theorem ps_raiseG {X : Cx} {W : WX} {e : Expr} {t : L2.St → Hp → XK → Prop} {pos : Pos} {x1 ec : Addr} (hc : DL.HotX X x1 ec) (tk : TakesV (.ref x1) X W) (he : L2N.PMk X e t) : PS X (.Raise (some e) none pos) (fun _ σ H => t σ H fun cls d H' => W cls d σ H') := by
  refine ⟨fun pins s σ H D I h => ?_⟩
  show wpAny _ _ (do standAt pos; raiseStmt X.env (some (do let v ← eval e X.env; standAt pos; pure v)) none) _ _ _
  refine wpAny_bind (wpAny_standAt (raise_madeG (x1 := x1) (wpAny_bind (wpAny_mono (he pins s σ H _ I h) (fun u s1 hu => wpAny_bind (wpAny_standAt (wpAny_pure ?_))) fun _ _ z => z))))
  obtain ⟨a, oe, vs, sI, H', cls, d, eu, J, k, hne, ha, hz, hd, h1, na, os, ag, r, q⟩ := hu
  obtain ⟨r1, r2⟩ := r (model X.prog X.w) s1.heap (J.kIn.keeps k)
  have hot := hc.at J
  have hot1 : HotA X.A x1 s1.heap := hot.keep k
  have ne1 : x1 ≠ a := fun z => by
    obtain ⟨_, o, _, _, g, _⟩ := hot
    rw [z, hne] at g
    cases g
  have ne2 : ∀ o ws b, s1.heap.get? x1 = some o → o.data = .fields ws → ws[2]? = some (.ref b) → b ≠ a := fun o ws b g dw cb z => by
    obtain ⟨_, o2, vs2, c2, g2, d2, e2, r2⟩ := hot
    have g3 := k _ _ g2
    rw [g] at g3
    cases g3
    rw [dw] at d2
    cases d2
    rw [cb] at e2
    cases e2
    rcases r2 with r2 | ⟨b2, ob, ws2, f1, f2, _⟩
    · cases r2
    · cases f1
      rw [z, hne] at f2
      cases f2
  have hi : 2 < vs.size := (Array.getElem?_eq_some_iff.mp (hz.2.2 vs hd)).1
  have k1 : (vs.setIfInBounds 2 (Value.ref x1))[1]? = some Value.none := by
    rw [← h1]
    simp [Array.getElem?_setIfInBounds]
  have k2 : (vs.setIfInBounds 2 (Value.ref x1))[2]? = some (Value.ref x1) := by simp [Array.getElem?_setIfInBounds, hi]
  have d2 := Obj.data_mapFields hd (·.setIfInBounds 2 (Value.ref x1))
  refine ⟨a, oe, vs, cls, eu, ha, hz.1, hd, h1, hi, ne1, hot1, ne2, r1, r2, tk _ _ (XEv.new J (fun b o g => ?_) hne (Heap.get?_update_self _ ha (Obj.isFreed_of_fields d2)) ⟨⟨(Obj.cls_mapFields ..).trans hz.1, (HandSPX.dict_mapFields ..).trans hz.2.1⟩, fun ws dw => ?_⟩ d2 k1 na os ag q)⟩
  · have nab : a ≠ b := fun z => by
      rw [← z, hne] at g
      cases g
    exact (Heap.get?_update_other s1.heap (Obj.mapFields (·.setIfInBounds 2 (.ref x1))) nab).trans (k b o g)
  · rw [d2] at dw
    cases dw
    exact k2

/-! ### try within an except suite -/
/-- on the ground: the exception at a stands in s3 -/
structure Down (cv : Value) (X : Cx) (pins : List (Addr × Obj)) (σ : L2.St) (H : Hp) (cls : Value) (d : Option Addr) (a : Addr) (s3 : Shared) : Prop where
  ex : ∃ (B : Heap) (sI : Shared), Inv X pins σ H sI ∧ (∀ b o, sI.heap.get? b = some o → b ∉ frs X.stack → B.get? b = some o) ∧ sI.heap.UpToSlots s3.heap ∧ HandSPX.FlyingZ B X.stack a (Zv cv cls d) s3.heap ∧ s3.os = sI.os ∧ AllBare s3.gens
  na : H a = none
section
variable {cv : Value} {X : Cx} {pins : List (Addr × Obj)} {σ : L2.St} {H : Hp} {cls : Value} {d : Option Addr} {a : Addr} {s3 : Shared}
theorem Down.suite (hs : X.stack = X.env :: X.outer) (hf : X.env.frame = some X.env.locals) (x : Down cv X pins σ H cls d a s3) :
    ∃ oe : Obj, Zv cv cls d oe ∧ (∃ vs, oe.data = .fields vs) ∧ s3.heap.get? a = some oe ∧ Inv (X.suite a ((a, oe) :: (X.pn ++ pins))) [] σ H s3 := by
  obtain ⟨⟨B, sI, I, nb, up, fl, os, ag⟩, na⟩ := x
  have J : Inv X pins σ H s3 := I.landed nb fl.1 up os ag
  obtain ⟨oe, vs, he, hz, hd⟩ := fl.there
  have nfr : a ∉ frs (X.env :: X.outer) := fun m => by
    rw [← hs] at m
    obtain ⟨_, o, g, nf⟩ := fl.2.2.1.mem m
    rw [he] at g
    cases g
    exact nf vs hd
  exact ⟨oe, hz, ⟨vs, hd⟩, he, J.suite he hd na (fun z => nfr (List.mem_filterMap.mpr ⟨X.env, List.mem_cons_self, by rw [hf, z]⟩)) fun m =>
    let ⟨e, he, q⟩ := List.mem_filterMap.mp m
    nfr (List.mem_filterMap.mpr ⟨e, List.mem_cons_of_mem _ he, q⟩)⟩
theorem Down.again {M : Model} {A : Around} {Q : Unit → Shared → Prop} {E₁ : Value → Shared → Prop} (x : Down cv X pins σ H cls d a s3) (q : ∀ s4, Down cv X pins σ H cls d a s4 → Q () s4) : wpAny M A (setFlight (.ref a) none) Q E₁ s3 := by
  obtain ⟨⟨B, sI, I, nb, up, fl, os, ag⟩, na⟩ := x
  exact HandSPX.lands_againZ fl fun h4 fl4 up4 => q { s3 with heap := h4 } ⟨⟨B, sI, I, nb, up.trans up4, fl4, os, ag⟩, na⟩
theorem XEv.lands {xe : Value → Shared → Prop} {W : WX} {u : Value} {s' : Shared} {Q : Unit → Shared → Prop} {E₁ : Value → Shared → Prop} (ok : X.Ok) (hs : X.stack = X.env :: X.outer) (hf : X.env.frame = some X.env.locals) (x : XEv cv (X.tr (X.pn ++ pins) xe) W u s')
    (q : ∀ a σ H cls d s3, u = .ref a → Down cv X pins σ H cls d a s3 → W cls d σ H → Q () s3) : wpAny (model X.prog X.w) X.A (noteFrame u X.env) (fun _ s2 => wpAny (model X.prog X.w) X.A (setFlight u none) Q E₁ s2) E₁ s' := by
  obtain ⟨a, B, sI, pins', σ, H, cls, d, eu, I, nb, up, sky, na, os, ag, w⟩ := x
  subst eu
  have fr : X.A.frames = some (X.env :: X.outer) := by rw [ok.frames, hs]
  have sky2 : Sky B (X.env :: X.outer) a (Zv cv cls d) X.env.locals s'.heap := by rw [← hs]; exact sky
  exact L2N.Sky.land Zv.steady fr hf sky2 fun h3 fl up3 => q a σ H cls d { s' with heap := h3 } rfl ⟨⟨B, sI, I.ofTry ok, nb, up.trans up3, by rw [hs]; exact fl, os, ag⟩, na⟩ w
end
abbrev looked (X : Cx) (pins : List (Addr × Obj)) (D : Ends) (hds : List ExceptHandler) : Value → Shared → Prop := fun e s1 =>
  wpAny (model X.prog X.w) X.A (noteFrame e X.env) (fun _ s2 => wpAny (model X.prog X.w) X.A (setFlight e none) (fun _ s3 => wpAny (model X.prog X.w) X.A (handleBy e X.env hds) (SP X pins D) X.xe s3) X.xe s2) X.xe s1
section
variable {X : Cx} {x n : Str} {c : Value} {i : Nat} {body suite : List Stmt} {b₀ : Stmt} {np pos pos' : Pos} {tb : WX → TS} {ts : Addr → Value → Option Addr → TS} {cv : Value}
theorem ps_try_asG (hs : X.stack = X.env :: X.outer) (hf : X.env.frame = some X.env.locals) (hN : X.N.Nodup) (hi : X.N[i]? = some n) (hln : X.env.kindOf n = some .local) (hc : Names X x c)
    (hb : ∀ (W : WX) (pn : List (Addr × Obj)) (xe : Value → Shared → Prop), (∀ q ∈ X.pn, q ∈ pn) → TakesV cv (X.tr pn xe) W → PassesOwn (model X.prog X.w) X.A X.env xe → PSs (X.tr pn xe) body (tb W))
    (hsu : ∀ (a : Addr) (oe : Obj) (cls : Value) (d : Option Addr) (pn : List (Addr × Obj)), (∀ q ∈ X.pn, q ∈ pn) → Zv cv cls d oe → (∃ vs, oe.data = .fields vs) → PSs (X.suite a ((a, oe) :: pn)) (b₀ :: suite) (ts a cls d)) :
    PS X (.Try body [.ExceptHandler (some (.Name x np)) (some n) (b₀ :: suite) pos'] [] [] pos) (fun D σ H => tb (wAs X.K c i ts W0 D) D σ H) := by
  refine ⟨fun pins s σ H D I h => wpAny_Try_except ?_⟩
  have ok := I.ok
  refine wpAny_mono ((hb (wAs X.K c i ts W0 D) (X.pn ++ pins) (looked X pins D _) (fun q m => List.mem_append_left _ m) (fun u s' xx => ?_) PassesOwn.looking).run [] s σ H D (I.toTry _) h) (fun f s1 sp => ?_) fun _ _ z => z
  · refine XEv.lands ok hs hf xx fun a σ' H' cls d s3 eu dn w => ?_
    subst eu
    obtain ⟨b, hb1, yes, no⟩ := w
    cases b with
    | false => exact (no rfl).elim
    | true =>
      obtain ⟨oe, hz, hd, he, S⟩ := dn.suite hs hf
      refine wpAny_handleBy_cons (codeAny_handlers_test ?_) fun q => nomatch q
      have ty : PySem.W.Looks (model X.prog X.w) s3.heap (typeOf (.ref a)) cls := fun A Q E s k q => wpAny_typeOf_ref (k _ _ he) (by rw [hz.1.1]; exact q)
      have met := PySem.W.exm_one (M := model X.prog X.w) S.kIn ty hb1
      have named : ∀ {Q E : Value → Shared → Prop}, Q c s3 → wpAny (model X.prog X.w) (X.A.mark (some (.ref a))) (eval (.Name x np) X.env) Q E s3 := fun {Q E} q => by
        obtain ⟨hg, hdbg, hm | ⟨hm, hv, hnn⟩⟩ := hc
        · exact ld_glob (X := X.suite a _) S hg hm q hdbg
        · exact ld_blt (X := X.suite a _) S hg hm hv q hnn hdbg
      refine named (met.here (codeAny_handlers_suite_as (dn.again fun s4 dn4 => ?_)))
      obtain ⟨oe4, hz4, hd4, he4, S4⟩ := dn4.suite hs hf
      refine store_ok (X := X.suite a ((a, oe4) :: (X.pn ++ pins))) (v := .ref a) S4 hN hi (.inl hln) rfl (fun s5 S5 => ?_) (.inr hln)
      refine wpAny_mono ((hsu a oe4 cls d (X.pn ++ pins) (fun q m => List.mem_append_left _ m) hz4 hd4).run [] s5 _ H' _ S5 (yes rfl a dn.na)) (fun f s6 sp => ?_) fun _ _ z => z.elim
      have fin : ∀ {σ6 : L2.St} {H6 : Hp} {Q : Shared → Prop}, Inv (X.suite a ((a, oe4) :: (X.pn ++ pins))) [] σ6 H6 s6 → (∀ s7, Inv X pins (σ6.set i none) H6 s7 → Q s7) →
        wpAny (model X.prog X.w) X.A (do bindName X.env n .none; unbindBehindTheSuite X.env n pos') (fun _ s7 => Q s7) X.xe s6 := fun S6 q => gone_ok (S6.unsuite ok) hN hi hln q
      cases f with
      | next =>
        obtain ⟨_, _, S6, q6⟩ := sp
        exact fin S6 fun _ J7 => ⟨_, _, J7, q6⟩
      | brk =>
        obtain ⟨_, _, S6, q6⟩ := sp
        exact fin S6 fun _ J7 => ⟨_, _, J7, q6⟩
      | cont =>
        obtain ⟨_, _, S6, q6⟩ := sp
        exact fin S6 fun _ J7 => ⟨_, _, J7, q6⟩
      | ret u =>
        obtain ⟨_, _, _, S6, r6, q6⟩ := sp
        exact fin S6 fun _ J7 => ⟨_, _, _, J7, r6, q6⟩
  · cases f with
    | next =>
      obtain ⟨_, _, J, q⟩ := sp
      exact wpAny_execs_nil ⟨_, _, J.ofTry ok, q⟩
    | brk =>
      obtain ⟨_, _, J, q⟩ := sp
      exact ⟨_, _, J.ofTry ok, q⟩
    | cont =>
      obtain ⟨_, _, J, q⟩ := sp
      exact ⟨_, _, J.ofTry ok, q⟩
    | ret u =>
      obtain ⟨_, _, _, J, r, q⟩ := sp
      exact ⟨_, _, _, J.ofTry ok, r, q⟩
end

/-! ### the handled exception of an except suite; over data -/
/-- the exception at a is handled, its context is None -/
def HotX1 (X : Cx) (a ec : Addr) : Prop := ∃ (oe : Obj) (vs : Array Value), X.A.handled = some (.ref a) ∧ L2.Zc (.ref ec) none oe ∧ oe.data = .fields vs ∧ vs[2]? = some .none ∧ (a, oe) ∈ X.pn
theorem HotX1.x {X : Cx} {a ec : Addr} (h : HotX1 X a ec) : DL.HotX X a ec := by
  obtain ⟨oe, vs, hh, hz, hd, hc, hm⟩ := h
  exact ⟨[(a, oe)], ⟨oe, [], vs, .none, rfl, hh, hz, hd, hc, .inl rfl⟩, fun p hp => by rw [List.mem_singleton.mp hp]; exact hm⟩
theorem HotX1.tr {X : Cx} {a ec : Addr} {pn : List (Addr × Obj)} {xe : Value → Shared → Prop} (h : HotX1 X a ec) (sub : ∀ q ∈ X.pn, q ∈ pn) : HotX1 (X.tr pn xe) a ec := by
  obtain ⟨oe, vs, hh, hz, hd, hc, hm⟩ := h
  exact ⟨oe, vs, hh, hz, hd, hc, sub _ hm⟩
theorem hot_suite1 {X : Cx} {a ec : Addr} {oe : Obj} {pn : List (Addr × Obj)} (hz : L2N.Zn (.ref ec) none oe) (hf : ∃ vs, oe.data = .fields vs) : HotX1 (X.suite a ((a, oe) :: pn)) a ec :=
  let ⟨vs, hv⟩ := hf
  ⟨oe, vs, rfl, hz.zc, hv, hz.2.2 vs hv, List.mem_cons_self⟩
theorem hot_suite2 {X : Cx} {a ec b eb : Addr} {ob : Obj} {pn : List (Addr × Obj)} (h : HotX1 X a ec) (sub : ∀ q ∈ X.pn, q ∈ pn) (hz : Zv (.ref a) (.ref eb) none ob) (hf : ∃ vs, ob.data = .fields vs) : DL.HotX (X.suite b ((b, ob) :: pn)) b eb := by
  obtain ⟨oe, vs, hh, hz1, hd, hc, hm⟩ := h
  obtain ⟨ws, hw⟩ := hf
  refine ⟨[(b, ob), (a, oe)], ⟨ob, [(a, oe)], ws, .ref a, rfl, rfl, hz.1, hw, hz.2 ws hw, .inr ⟨a, oe, vs, rfl, List.mem_singleton.mpr rfl, hd, hc⟩⟩, fun p hp => ?_⟩
  rcases List.mem_cons.mp hp with e | hp
  · rw [e]
    exact List.mem_cons_self
  · rw [List.mem_singleton.mp hp]
    exact List.mem_cons_of_mem _ (sub _ hm)
theorem roomH_mark2 {k : Nat} {A : Around} (r : L2H.RoomH k A) (h : Option Value) : L2H.RoomH k (A.mark h) := ⟨r.dp, r.un⟩
/-- try: .. except c: suite; the suite knows the exception -/
def dTryH (K : PySem.W.Frag) (c : Value) (t : DSt) (u : Addr → Addr → DSt) : DSt := fun E δ M => t { E with xc := fun cls δ' M' => PySem.W.exmOne K (.ref cls) c = some true ∧ ∀ a, M' a = none → u a cls { E with xc := fun _ _ _ => False } δ' M' } δ M
section
variable {X : Cx} {W : WX} {x n m : Str} {i : Nat} {np pos pos' : Pos} {c : Value} {body suite : List Stmt} {b₀ : Stmt} {t : DSt} {u : Addr → Addr → DSt}
theorem pds_tryH (hs : X.stack = X.env :: X.outer) (hf : X.env.frame = some X.env.locals) (hc : Names X x c) (tk : L2N.Takes X W)
    (hb : ∀ (W' : WX) (pn : List (Addr × Obj)) (xe : Value → Shared → Prop), L2N.Takes (X.tr pn xe) W' → PassesOwn (model X.prog X.w) X.A X.env xe → PDSs (X.tr pn xe) W' body t)
    (hsu : ∀ (a ec : Addr) (oe : Obj) (pn : List (Addr × Obj)), L2N.Zn (.ref ec) none oe → (∃ vs, oe.data = .fields vs) → PDSs (X.suite a ((a, oe) :: pn)) W0 (b₀ :: suite) (u a ec)) :
    PDS X W (.Try body [.ExceptHandler (some (.Name x np)) none (b₀ :: suite) pos'] [] [] pos) (dTryH X.K c t u) :=
  PSw (L2N.ps_try_many (tb := fun W' => upS X.K W' t) (l := [(c, fun a cls d D σ H => ∃ ec, cls = .ref ec ∧ d = none ∧ upS X.K W0 (u a ec) D σ H)]) hs hf tk hb (.cons hc (fun a oe cls d pn hz hf => ⟨fun pins s σ H D I ⟨ec, e1, e2, h⟩ => by
      subst e1 e2
      exact (hsu a ec oe pn hz hf).run pins s σ H D I h⟩) .nil)) fun D σ H ⟨G, M, δ, E, ok, sl, h, eo⟩ =>
    ⟨G, M, δ, _, ok, sl, h, ⟨eo.nx, eo.rt, eo.bk, eo.ct, fun cls δ' M' σ' H' G' ⟨hx, hu⟩ ok' e' sl' => ⟨true, hx, fun _ a ha => ⟨cls, rfl, rfl, G', M', δ', _, ok', sl', hu a (ok'.mnone ha),
      ⟨(eo.mono e').nx, (eo.mono e').rt, (eo.mono e').bk, (eo.mono e').ct, WOk.bot⟩⟩, fun z => nomatch z⟩⟩⟩
theorem pds_tryAsG {cv : Value} (hs : X.stack = X.env :: X.outer) (hf : X.env.frame = some X.env.locals) (hN : X.N.Nodup) (hi : X.N[i]? = some n) (hln : X.env.kindOf n = some .local) (hc : Names X x c)
    (hb : ∀ (W' : WX) (pn : List (Addr × Obj)) (xe : Value → Shared → Prop), (∀ q ∈ X.pn, q ∈ pn) → TakesV cv (X.tr pn xe) W' → PassesOwn (model X.prog X.w) X.A X.env xe → PDSs (X.tr pn xe) W' body t)
    (hsu : ∀ (a ec : Addr) (oe : Obj) (pn : List (Addr × Obj)), (∀ q ∈ X.pn, q ∈ pn) → Zv cv (.ref ec) none oe → (∃ vs, oe.data = .fields vs) → PDSs (X.suite a ((a, oe) :: pn)) W0 (b₀ :: suite) (u a ec)) :
    PDS X W (.Try body [.ExceptHandler (some (.Name x np)) (some n) (b₀ :: suite) pos'] [] [] pos) (dTryAs X.K c i t u) :=
  PSw (ps_try_asG (tb := fun W' => upS X.K W' t) (ts := fun a cls d D σ H => ∃ ec, cls = .ref ec ∧ d = none ∧ upS X.K W0 (u a ec) D σ H) (cv := cv) hs hf hN hi hln hc hb
    (fun a oe cls d pn sub hz hf => ⟨fun pins s σ H D I ⟨ec, e1, e2, h⟩ => by
      subst e1 e2
      exact (hsu a ec oe pn sub hz hf).run pins s σ H D I h⟩)) fun D σ H ⟨G, M, δ, E, ok, sl, h, eo⟩ =>
    ⟨G, M, δ, _, ok, sl, h, ⟨eo.nx, eo.rt, eo.bk, eo.ct, fun cls δ' M' σ' H' G' ⟨hx, hu⟩ ok' e' sl' => ⟨true, hx, fun _ a ha => ⟨cls, rfl, rfl, G', M', _, _, ok', Slots.set (.yes (.obj a)) i sl', hu a (ok'.mnone ha),
      ⟨fun δ2 M2 σ2 H2 G2 h2 ok2 e2 sl2 => eo.nx _ _ _ _ _ h2 ok2 (e'.trans e2) (Slots.set .no i sl2), fun d M2 v H2 G2 h2 ok2 e2 r2 => eo.rt _ _ _ _ _ h2 ok2 (e'.trans e2) r2,
       fun δ2 M2 σ2 H2 G2 h2 ok2 e2 sl2 => eo.bk _ _ _ _ _ h2 ok2 (e'.trans e2) (Slots.set .no i sl2), fun δ2 M2 σ2 H2 G2 h2 ok2 e2 sl2 => eo.ct _ _ _ _ _ h2 ok2 (e'.trans e2) (Slots.set .no i sl2), WOk.bot⟩⟩, fun z => nomatch z⟩⟩⟩
end
section
variable {X : Cx} {W : WX} {C a ec : Addr} {x m : Str} {j : Nat} {p p2 pos pos2 : Pos} {B newId initId : String} {bmB : List Value}
theorem pds_raiseG (hc : DL.HotX X a ec) (tk : TakesV (.ref a) X W) (F : ExcBaseFacts B newId initId bmB) (q : PySem.W.excIn X.K C bmB newId = true) (gC : X.mg x = some (.ref C)) (kC : PySem.W.keepIn X.K (.ref C) = true) (r : Raises X (.ref C)) (hg : Gl X x)
    (hdb : (x == ("__debug__" : Str)) = false := by decide) : PDS X W (.Raise (some (.Call (.Name x p) [.Constant (.str m) j p2] [] pos)) none pos2) (dRaise C) :=
  PSw (ps_raiseG hc tk (L2N.pmk_own F q gC kC r hg hdb)) fun D σ H ⟨G, M, δ, E, ok, sl, h, eo⟩ => eo.xc _ _ _ _ _ _ h ok (Same.refl _) sl
end

/-! ### C(e, ..) where an exception is handled -/
def HasIG (P : Program) (w : World) (K : PySem.W.Frag) (mg : Str → Option Value) (base : Heap) (CX : Addr → CXT) (C : Addr) (ps : List Str) (k : Nat) (m : Addr → Addr → FDm) : Prop := ∃ (f : Addr) (fd : FuncData), Mk K C f ∧ Binds K fd ps [] ∧ FnGD P w K mg base CX k f fd ps m
section
variable {X : Cx} {W : WX} {CX : Addr → CXT} {k : Nat} {f C a ec : Addr} {fd : FuncData} {ps : List Str} {m : Addr → Addr → FDm} {sp : Addr → Addr → Sp} {E : L2.St → XK} {x : Str} {p pos : Pos} {e : Expr} {es : List Expr}
theorem roomH_under {k : Nat} {A : Around} (r : L2H.RoomH (k + 1) A) (C : Addr) (us : List Value) : L2H.RoomH k (A.under (.builtin "type.__call__" ⟨.ref C :: us, []⟩)) :=
  ⟨by have h := r.dp; rw [make_depth]; omega, by have h := r.un; rw [make_units]; omega⟩
theorem HotL.under {A : Around} {l : List (Addr × Obj)} (h : HotL A a ec l) (C : Addr) (us : List Value) : HotL (A.under (.builtin "type.__call__" ⟨.ref C :: us, []⟩)) a ec l := by
  obtain ⟨oe, r, vs, c, h1, h2, h3⟩ := h
  exact ⟨oe, r, vs, c, h1, by first | exact h2 | simpa [Around.under] using h2, h3⟩
theorem pe_makeG {t : TA} (Mk' : Mk X.K C f) (F : FnG X.prog X.w X.K X.mg X.base CX k f fd ps sp) (hr : L2H.RoomH (k + 1) X.A) (hc : DL.HotX X a ec) (hg : Gl X x) (hm : X.mg x = some (.ref C)) (hb : Binds X.K fd ps []) (hx : ∀ σ, PassesAt (CX a) X σ (E σ))
    (ha : PA X (e :: es) t) (hdb : (x == ("__debug__" : Str)) = false := by decide) (he : starEach (e :: es) X.env = (false, eval e X.env) :: starEach es X.env := by rfl) (hpl : (backTo pos (starEach es X.env)).any (·.1) = false := by rfl) :
    PE X (.Call (.Name x p) (e :: es) [] pos) (tMakeX C (sp a ec) E t) := by
  refine ⟨fun pins s σ H Q I h => ?_⟩
  refine wpAny_Call_Name_kw (ld_glob I hg hm ?_ hdb)
  refine PySem.W.callWith_K (h₀ := X.base) I.ok.mod.kin Mk'.kp (thn (ha.run pos pins s σ H _ I h) fun us s1 ⟨vs, H1, I1, r, q⟩ => ⟨I1.kIn, ?_⟩) he hpl
  have sp1 := q (s1.heap.objs.size + 1) s1.heap.objs.size (I1.hok.fresh (Nat.le_succ _)) (I1.hok.fresh (Nat.le_refl _)) (Nat.ne_of_lt (Nat.lt_succ_self _))
  have I2 := Inv.made (C := C) I1
  have r2 : Vals (V.ref (s1.heap.objs.size + 1) :: vs) (Value.ref (s1.heap.objs.size + 1) :: us) := .cons rfl r
  have hl := r2.length
  rw [F.len _ _ _ _ _ _ sp1] at hl
  have b := hb { s1 with heap := (s1.heap.push PySem.W.emptyDict).push (PySem.W.instObj C s1.heap.objs.size) } (Value.ref (s1.heap.objs.size + 1) :: us) I2.kIn (by rw [List.append_nil]; exact hl.symm)
  rw [List.append_nil] at b
  obtain ⟨l, hot, hp⟩ := hc
  have hpin : ∀ q ∈ l, L2H.PinOk X.stack _ _ q := fun q hq => by
    have P1 := I2.pin q (List.mem_append_left _ (hp q hq))
    exact ⟨P1.1, P1.2.1, fun hm => (List.mem_cons.mp (I2.stkSub q.1 hm)).elim P1.2.2.1 P1.2.2.2.1, P1.2.2.2.2⟩
  refine wpAny_call (make_map (f := f) I1.kIn Mk'.makes Mk'.init (beq_iff_eq.mp Mk'.fn) (codeAny_mono (F.run _ X.stack _ _ ⟨Value.ref (s1.heap.objs.size + 1) :: us, []⟩ (Value.ref (s1.heap.objs.size + 1) :: us) _ _ (E σ) a ec l
    (roomH_under hr C us) (hot.under C us) hpin (I2.env0.make C us []) b r2 sp1) fun r s' q' => ?_))
  match r, q' with
  | .error e, q' => exact hx σ pins _ _ e s' I2 q'
  | .ok (.ret u), q' =>
    obtain ⟨v, H', I3, rv, ev, q3⟩ := I2.after q'
    subst ev
    exact ⟨rv, V.ref (s1.heap.objs.size + 1), H', I3, rfl, q3⟩
theorem pd_makeG {t : DA} (hc : DL.HotX X a ec) (F : HasIG X.prog X.w X.K X.mg X.base CX C ps k m) (hr : L2H.RoomH (k + 1) X.A) (hx : ∀ σ, PassesAt (CX a) X σ (WE W σ)) (hg : Gl X x) (hm : X.mg x = some (.ref C))
    (ha : PDA X W (e :: es) t) (hdb : (x == ("__debug__" : Str)) = false := by decide) (he : starEach (e :: es) X.env = (false, eval e X.env) :: starEach es X.env := by rfl) (hpl : (backTo pos (starEach es X.env)).any (·.1) = false := by rfl) :
    PD X W (.Call (.Name x p) (e :: es) [] pos) (dMk C (m a ec) t) := by
  obtain ⟨f, fd, hmk, hb, F⟩ := F
  exact PEw (pe_makeG (sp := spG X.K m) (E := fun σ => WE W σ) hmk F hr hc hg hm hb hx ha hdb he hpl) fun σ H Q ⟨G, M, δ, Q', X', ok, sl, h, hq, hx⟩ => ⟨G, M, δ, _, X', ok, sl, h, fun ds M1 vs H1 G1 h1 ok1 e1 r1 => fun x dx hx0 hd0 hne => by
    have okd := ok1.extra (o := .own x) hd0
    have hx1 : (upd H1 dx (.own x)) x = none := by rw [upd_ne (Ne.symm hne)]; exact hx0
    have gx := okd.gnone hx1
    refine ⟨G1, M1.set x (.ins C []), .obj x :: ds, _, _, okd.write (m := .ins C []) gx ⟨dx, [], upd_same, rfl, .nil⟩, .cons (.obj x) r1, h1 x (ok1.mnone hx0), fun d M2 v H2 G2 h2 ok2 e2 r2 => ?_, fun cls M2 H2 G2 h2 ok2 e2 => hx _ _ _ _ _ _ h2 ok2 (e1.trans e2) (sl.mono (e1.trans e2))⟩
    obtain ⟨hn, h3⟩ := h2
    have ev : v = .non := by
      cases r2 <;> first | rfl | cases hn
    exact ⟨ev, hq _ _ _ _ _ h3 ok2 (e1.trans e2) (.obj x)⟩, hx⟩
end
end DL

/-! Lists and texts walked where an exception is handled; a comprehension that an exception leaves -/
namespace DL
open PySem PySem.Spec PyProof.Rows L2

/-! ### the end of an iterator -/
theorem HotA.upd {A : Around} {x1 it : Addr} {h : Heap} {oi : Obj} {us : Array Value} (hot : HotA A x1 h) (gi : h.get? it = some oi) (di : oi.data = .fields us) (hs : us.size = 2) (f : Obj → Obj) : HotA A x1 (h.update it f) := by
  have n3 : ∀ (b : Addr) (o : Obj) (vs : Array Value) (c : Value), h.get? b = some o → o.data = .fields vs → vs[2]? = some c → it ≠ b := fun b o vs c g d e z => by
    rw [z, g] at gi
    cases gi
    rw [d] at di
    cases di
    rw [Array.getElem?_eq_none (by omega)] at e
    cases e
  obtain ⟨hh, o, vs, c, g, d, e, r⟩ := hot
  refine ⟨hh, o, vs, c, (Heap.get?_update_other _ _ (n3 _ _ _ _ g d e)).trans g, d, e, ?_⟩
  rcases r with r | ⟨b, ob, ws, q, g2, d2, e2⟩
  · exact .inl r
  · exact .inr ⟨b, ob, ws, q, (Heap.get?_update_other _ _ (n3 _ _ _ _ g2 d2 e2)).trans g2, d2, e2⟩
section
variable {prog : Program} {w : World} {A : Around} {E : Value → Shared → Prop} {s : Shared}
/-- StopIteration raised there -/
theorem stopG {α : Type} {x1 : Addr} {Q : α → Shared → Prop} (hot : HotA A x1 s.heap) (hE : ∀ (h' : Heap) (a : Addr), (∀ b o, s.heap.get? b = some o → h'.get? b = some o) → Shared.TypeIs { s with heap := h' } (.ref a) "StopIteration" → E (.ref a) { s with heap := h' }) :
    wpAny (model prog w) A (newExc (.type "StopIteration") [] >>= fun e => (raiseNew e : Sem α)) Q E s := by
  refine wpAny_bind ?_
  simp only [newExc, newTuple]
  refine wpAny_bind (wpAny_newObj_type ?_ (by size_fits)); refine wpAny_bind (m := firstArgMember _ _) (wpAny_of_eq (a := Value.none) (by first | rfl | (simp only [firstArgMember]; rfl)) (wpAny_newObj_type ?_ (by size_fits)))
  have big : s.heap.get? (s.heap.push { cls := .type "tuple", data := .seq #[] }).objs.size = none := by
    cases g : s.heap.get? (s.heap.push { cls := .type "tuple", data := .seq #[] }).objs.size with
    | none => rfl
    | some o => exact absurd (Heap.lt_size g) (by rw [Heap.size_push]; exact Nat.not_lt.mpr (Nat.le_succ _))
  have kp : ∀ b o, s.heap.get? b = some o → ((s.heap.push { cls := .type "tuple", data := .seq #[] }).push { cls := .type "StopIteration", data := .fields (#[Value.ref s.heap.objs.size, .none, .none, .none, .bool false, .none] ++ ownMembersOf (.type "StopIteration") []) }).get? b = some o := fun b o e =>
    Heap.get?_push_of_some _ (Heap.get?_push_of_some _ e)
  obtain ⟨_, o1, vs1, c1, g1, d1, e1, r1⟩ := id hot
  refine raiseNewG (hot.keep kp) (fun z => by rw [← z, g1] at big; cases big) (fun o ws b go dw cb z => ?_) (Heap.get?_push_size _ rfl) rfl (by first | (simp; done) | (simp; omega)) (hE _ _ (fun b o e => ?_) ⟨_, Heap.get?_update_self _ (Heap.get?_push_size _ rfl) rfl, rfl⟩)
  · have k2 := kp _ _ g1
    rw [go] at k2
    cases k2
    rw [dw] at d1
    cases d1
    rw [cb] at e1
    cases e1
    rcases r1 with r1 | ⟨b2, ob, ws2, f1, f2, _⟩
    · cases r1
    · cases f1
      rw [z, big] at f2
      cases f2
  · have nb : (s.heap.push { cls := .type "tuple", data := .seq #[] }).objs.size ≠ b := fun z => by rw [← z, big] at e; cases e
    exact (Heap.get?_update_other _ _ nb).trans (kp b o e)
theorem list_endG {it l x1 : Addr} {i : Nat} {items : Array Value} {Q : Option Value → Shared → Prop} (hot : HotA A x1 s.heap) (hi : s.heap.IsListIter it l i) (hl : s.heap.IsList l items) (hx : items[i]? = none) (q : ∀ h', Heap.ExtBut it s.heap h' → Q none { s with heap := h' }) :
    wpAny (model prog w) A (pyNext (.ref it)) Q E s := by
  obtain ⟨o, ho, hc, hd⟩ := id hi
  obtain ⟨ol, hol, _, nl, hdl⟩ := hl
  unfold pyNext
  refine wpAny_bind (wpAny_attempt (wpAny_callSpecial?_slot (name := Str.ofString "__next__") hi.typeIs slot_listiter_next (wpAny_call_entry slot_listiter_next hi.typeIs entry_listiter_next ?_ (args_listiter_next _))))
  show wpAny _ _ (field (.ref it) 0 >>= _) _ _ s
  refine wpAny_bind (wpAny_field ho hd (x := .ref l) rfl ?_)
  show wpAny _ _ (if (Value.ref l == Value.none) = true then _ else _) _ _ s
  rw [if_neg (show ¬ ((Value.ref l == Value.none) = true) from Bool.false_ne_true)]
  show wpAny _ _ (field (.ref it) 1 >>= _) _ _ s
  refine wpAny_bind (wpAny_field ho hd (x := .int i 0) rfl ?_)
  show wpAny _ _ (seqItems? (.ref l) >>= _) _ _ s
  refine wpAny_bind (wpAny_seqItems hol hdl ?_)
  simp only [Int.toNat_natCast, hx]
  refine wpAny_bind (wpAny_rule (wpAny_bind (wpAny_setField ho hd (by simp) ?_)))
  refine stopG (hot.upd ho hd rfl _) fun h' a k ty => wpAny_bind (wpAny_isInstance ty isSubtype_stop (wpAny_pure (q h' fun b o nb g => k b o ((Heap.get?_update_other _ _ (Ne.symm nb)).trans g))))
theorem ascii_endG {it x1 : Addr} {x : Str} {t : Tok} {i : Nat} {Q : Option Value → Shared → Prop} (hot : HotA A x1 s.heap) (hi : s.heap.IsStrIter it "str_ascii_iterator" x t i) (hx : x.cps[i]? = none) (q : ∀ h', Heap.ExtBut it s.heap h' → Q none { s with heap := h' }) :
    wpAny (model prog w) A (pyNext (.ref it)) Q E s := by
  obtain ⟨o, ho, hc, hd⟩ := id hi
  unfold pyNext
  refine wpAny_bind (wpAny_attempt (wpAny_callSpecial?_slot (name := Str.ofString "__next__") hi.typeIs F.slot_str_ascii_iterator_next (wpAny_call_entry F.slot_str_ascii_iterator_next hi.typeIs F.entry_str_ascii_iterator_next ?_ (F.args_str_ascii_iterator_next_1 _))))
  show wpAny _ _ (field (.ref it) 0 >>= _) _ _ s
  refine wpAny_bind (wpAny_field ho hd (x := .str x t) rfl ?_)
  show wpAny _ _ (field (.ref it) 1 >>= _) _ _ s
  refine wpAny_bind (wpAny_field ho hd (x := .int i 0) rfl ?_)
  simp only [Int.toNat_natCast, hx]
  refine wpAny_bind (wpAny_rule (wpAny_bind (wpAny_setField ho hd (by simp) (wpAny_bind (wpAny_letGo ?_)))))
  refine stopG (hot.upd ho hd rfl _) fun h' a k ty => wpAny_bind (wpAny_isInstance ty isSubtype_stop (wpAny_pure (q h' fun b o nb g => k b o ((Heap.get?_update_other _ _ (Ne.symm nb)).trans g))))
theorem wide_endG {it x1 : Addr} {x : Str} {t : Tok} {i : Nat} {Q : Option Value → Shared → Prop} (hot : HotA A x1 s.heap) (hi : s.heap.IsStrIter it "str_iterator" x t i) (hx : x.cps[i]? = none) (q : ∀ h', Heap.ExtBut it s.heap h' → Q none { s with heap := h' }) :
    wpAny (model prog w) A (pyNext (.ref it)) Q E s := by
  obtain ⟨o, ho, hc, hd⟩ := id hi
  unfold pyNext
  refine wpAny_bind (wpAny_attempt (wpAny_callSpecial?_slot (name := Str.ofString "__next__") hi.typeIs F.slot_str_iterator_next (wpAny_call_entry F.slot_str_iterator_next hi.typeIs F.entry_str_iterator_next ?_ (F.args_str_iterator_next_1 _))))
  show wpAny _ _ (field (.ref it) 0 >>= _) _ _ s
  refine wpAny_bind (wpAny_field ho hd (x := .str x t) rfl ?_)
  show wpAny _ _ (field (.ref it) 1 >>= _) _ _ s
  refine wpAny_bind (wpAny_field ho hd (x := .int i 0) rfl ?_)
  simp only [Int.toNat_natCast, hx]
  refine wpAny_bind (wpAny_rule (wpAny_bind (wpAny_setField ho hd (by simp) (wpAny_bind (wpAny_letGo ?_)))))
  refine stopG (hot.upd ho hd rfl _) fun h' a k ty => wpAny_bind (wpAny_isInstance ty isSubtype_stop (wpAny_pure (q h' fun b o nb g => k b o ((Heap.get?_update_other _ _ (Ne.symm nb)).trans g))))
theorem str_endG {it x1 : Addr} {x : Str} {t : Tok} {ty : String} {i : Nat} {Q : Option Value → Shared → Prop} (hty : ty = "str_ascii_iterator" ∨ ty = "str_iterator") (hot : HotA A x1 s.heap) (hi : s.heap.IsStrIter it ty x t i) (hx : x.cps[i]? = none)
    (q : ∀ h', Heap.ExtBut it s.heap h' → Q none { s with heap := h' }) : wpAny (model prog w) A (pyNext (.ref it)) Q E s := by
  rcases hty with e | e <;> subst e
  · exact ascii_endG hot hi hx q
  · exact wide_endG hot hi hx q
theorem str_itemG {it : Addr} {x : Str} {t : Tok} {ty : String} {i c : Nat} {Q : Option Value → Shared → Prop} (hty : ty = "str_ascii_iterator" ∨ ty = "str_iterator") (hi : s.heap.IsStrIter it ty x t i) (hx : x.cps[i]? = some c)
    (q : ∀ h', h'.IsStrIter it ty x t (i + 1) → Heap.SameBut it s.heap h' → Q (some (.str ⟨#[c]⟩ s.toks)) { s with heap := h', toks := s.toks + 1 }) : wpAny (model prog w) A (pyNext (.ref it)) Q E s := by
  rcases hty with e | e <;> subst e
  · exact wpAny_pyNext_ascii_item hi hx q
  · exact wpAny_pyNext_wide_item hi hx q
end

/-! ### for over a text -/
section
variable {X : Cx} {tg e : Expr} {te : TE} {pos : Pos}
theorem str_itG {pins : List (Addr × Obj)} {σ : L2.St} {H : Hp} {s : Shared} {R : It → Hp → Prop} (he : PE X e te) (I : Inv X pins σ H s) (h : iStr te σ H R) :
    wpAny (model X.prog X.w) X.A (eval e X.env) (fun v s1 => wpAny (model X.prog X.w) X.A (pyIter v) (fun itv s2 => ∃ (it : Addr) (x : Str) (t : Tok) (ty : String) (H' : Hp), itv = .ref it ∧ (ty = "str_ascii_iterator" ∨ ty = "str_iterator") ∧ Inv X pins σ H' s2 ∧ s2.heap.IsStrIter it ty x t 0 ∧ FpOk X pins H' it ∧ R (Its x) H') X.xe s1) X.xe s := by
  refine thn (he.run pins s σ H _ I h) fun v s1 ⟨y, H1, I1, r1, x, ex, q⟩ => ?_
  subst ex
  obtain ⟨t, ev⟩ := r1
  subst ev
  cases ha : x.cps.all (· < 128) with
  | false => exact wpAny_pyIter_wide ha ⟨_, x, t, "str_iterator", H1, rfl, .inr rfl, I1.kept (t' := s1.toks) fun b o g => Heap.get?_push_of_some _ g, ⟨_, Heap.get?_push_size _ rfl, rfl, rfl⟩, I1.fpOk (Nat.le_refl _) (I1.hok.fresh (Nat.le_refl _)), q⟩
  | true => exact wpAny_pyIter_ascii ha ⟨_, x, t, "str_ascii_iterator", H1, rfl, .inl rfl, I1.kept (t' := s1.toks) fun b o g => Heap.get?_push_of_some _ g, ⟨_, Heap.get?_push_size _ rfl, rfl, rfl⟩, I1.fpOk (Nat.le_refl _) (I1.hok.fresh (Nat.le_refl _)), q⟩
theorem ps_forS {g : TG} {tb : TS} {body : List Stmt} (hp : PassesOwn (model X.prog X.w) X.A X.env X.xe) (hot : HotI X) (he : PE X e te) (hgt : PG X tg g) (hb : PSs X body tb)
    (hf : ∀ x, foldedSetIterable e X.env x = pure x := by intro _; rfl) : PS X (.For tg e body [] pos) (tFor (iStr te) g tb) := by
  refine ⟨fun pins s σ H D I h => ?_⟩
  refine wpAny_For (thn (str_itG he I h) fun v s1 h1 => thn h1 fun itv s2 ⟨it, x, t, ty, H2, ev, hty, I2, st2, f2, W, ⟨m0, w0⟩, turn⟩ => ?_) hf
  subst ev
  obtain ⟨fn, fr⟩ := f2
  refine codeAny_forLoop_any (fun n s' => ∃ (i : Nat) (σ' : L2.St) (H' : Hp), Inv X pins σ' H' s' ∧ s'.heap.IsStrIter it ty x t i ∧ H' it = none ∧ W i n σ' H') ?_ m0 ⟨0, σ, H2, I2, st2, fn, w0⟩
  rintro n s3 ⟨i, σ3, H3, I3, st3, fn3, w3⟩
  obtain ⟨f1, f2, f3, f4, f5⟩ := id fr
  rcases turn i n σ3 H3 w3 with ⟨stop, qn⟩ | ⟨go, N, hN, step⟩
  · obtain ⟨x1, hx1⟩ := hot _ _ _ _ I3
    have hle : x.cps.size ≤ i := stop
    exact wpAny_passesOwn hp (str_endG hty hx1 st3 (Array.getElem?_eq_none hle) fun h' k => wpAny_execs_nil ⟨σ3, H3, I3.turned (t' := s3.toks) (fun b o nb g => k b o nb g) fn3 f1 f3 f4 f5, qn⟩)
  · have hlt : i < x.cps.size := go
    have hx : x.cps[i]? = some x.cps[i] := Array.getElem?_eq_getElem hlt
    refine wpAny_passesOwn hp (str_itemG hty st3 hx fun h' st' sb => ?_)
    have I4 : Inv X pins σ3 H3 { s3 with heap := h', toks := s3.toks + 1 } := I3.turned (fun b o nb z => (sb.2 b nb).trans z) fn3 f1 f3 f4 f5
    obtain ⟨oi, g1, c1, d1⟩ := id st'
    have notc : ∃ o, h'.get? it = some o ∧ ∀ v, o.data ≠ .cell v := ⟨oi, g1, fun v z => by rw [d1] at z; cases z⟩
    refine wpAny_passesOwn hp (go_of (s := { s3 with heap := h', toks := s3.toks + 1 }) (n := ty) g1 c1 d1 (by rcases hty with e | e <;> subst e <;> decide) ?_)
    have I5 := I4.pinned (fp := [it]) (fun b hb => by rw [List.mem_singleton.mp hb]; exact ⟨fn3, f1, f2, f3, f4, f5⟩) fun b hb => by rw [List.mem_singleton.mp hb]; exact notc
    refine wpAny_passesOwn hp (thn (hgt.run _ _ σ3 H3 (.str ⟨#[x.cps[i]]⟩) _ _ I5 ⟨s3.toks, rfl⟩ (step _ H3 ⟨rfl, _, hx, rfl⟩)) fun _ s6 ⟨σ6, H6, I6, q6⟩ => ?_)
    refine wpAny_passesOwn hp (thn (hb.run _ s6 σ6 H6 _ I6 q6) fun f s7 q7 => ?_)
    have on : ∀ (σ7 : L2.St) (H7 : Hp), Inv X (pins ++ pinsAt [it] h') σ7 H7 s7 → N σ7 H7 → ∃ m, m < n ∧ ∃ (i : Nat) (σ' : L2.St) (H' : Hp), Inv X pins σ' H' s7 ∧ s7.heap.IsStrIter it ty x t i ∧ H' it = none ∧ W i m σ' H' := fun σ7 H7 I7 n7 => by
      obtain ⟨m, hm, w7⟩ := hN σ7 H7 n7
      have pn := I7.pin (it, _) (List.mem_append_right _ (List.mem_append_right _ (mem_pinsAt (List.mem_singleton.mpr rfl) g1)))
      exact ⟨m, hm, i + 1, σ7, H7, I7.unpinned, ⟨oi, pn.1, c1, d1⟩, pn.2.1, w7⟩
    cases f with
    | next =>
      obtain ⟨σ7, H7, I7, n7⟩ := q7
      exact on σ7 H7 I7 n7
    | cont =>
      obtain ⟨σ7, H7, I7, n7⟩ := q7
      exact on σ7 H7 I7 n7
    | brk =>
      obtain ⟨σ7, H7, I7, n7⟩ := q7
      exact ⟨σ7, H7, I7.unpinned, n7⟩
    | ret u =>
      obtain ⟨x7, σ7, H7, I7, r7, n7⟩ := q7
      exact ⟨x7, σ7, H7, I7.unpinned, r7, n7⟩
end
/-- the signs of a text -/
def signsOf (d : D) (F : List D → (Mem → Prop) → Prop) : Prop := match d with
  | .str z => F (signsD z) still
  | _ => False
def dSigns (t : DE) : DI := fun δ M R X => t δ M (fun d M1 => signsOf d fun items P => R items P M1) X
theorem signsOf_str {z : Str} {F : List D → (Mem → Prop) → Prop} : signsOf (.str z) F = F (signsD z) still := rfl
theorem signs_up {K : PySem.W.Frag} {W : WX} {t : DE} (σ : L2.St) (H : Hp) (R : It → Hp → Prop) (h : upI K W (dSigns t) σ H R) : iStr (up K W t) σ H R := by
  obtain ⟨G, M, δ, Q', X', ok, sl, h, hq, hx⟩ := h
  refine ⟨G, M, δ, _, X', ok, sl, h, fun d M1 v H1 G1 h1 ok1 e1 r1 => ?_, hx⟩
  unfold signsOf at h1
  split at h1
  · cases r1 with
    | str z hs => exact ⟨_, rfl, hq _ _ _ _ _ _ h1 ok1 e1 (it_str hs) (by unfold signsD; rw [List.length_map, Array.length_toList]; exact strOk_len hs)⟩
  · exact h1.elim
section
variable {X : Cx} {W : WX} {tg e : Expr} {t : DE} {pos : Pos} {a ec : Addr} {body : List Stmt} {g : DG} {tb : DSt}
theorem pdi_signs (h : PD X W e t) : PDI X W tg e (dSigns t) := PIw (pi_str h) signs_up
theorem pds_forGS (hp : PassesOwn (model X.prog X.w) X.A X.env X.xe) (hc : DL.HotX X a ec) (he : PD X W e t) (hgt : PDG X tg g) (hb : PDSs X W body tb) (hf : ∀ x, foldedSetIterable e X.env x = pure x := by intro _; rfl) : PDS X W (.For tg e body [] pos) (dFor (dSigns t) g tb) :=
  PSw (ps_forS hp hc.i he hgt hb hf) fun D σ H h => signs_up σ H _ (for_up D σ H h)
end
/-! ### a comprehension over a list, which an exception may leave -/
theorem zv_n {cls : Value} {d : Option Addr} {o : Obj} (h : L2N.Zn cls d o) : Zv .none cls d o := ⟨h.zc, h.2.2⟩
theorem n_zv {cls : Value} {d : Option Addr} {o : Obj} (h : Zv .none cls d o) : L2N.Zn cls d o := ⟨h.1.1, h.1.2, h.2⟩
theorem takesV_N {X : Cx} {W : WX} (tk : L2N.Takes X W) : TakesV .none X W := fun u s1 ⟨a, B, sI, pins, σ, H, cls, d, e, I, nb, up, sky, r⟩ => tk u s1 ⟨a, B, sI, pins, σ, H, cls, d, e, I, nb, up, sky_up (fun _ _ z => n_zv z) sky, r⟩
theorem takesN0 {X : Cx} : L2N.Takes X (fun _ _ _ _ => False) := fun _ _ ⟨_, _, _, _, _, _, _, _, _, _, _, _, _, _, _, _, z⟩ => z.elim
theorem passN_V {X : Cx} {σ : L2.St} {E : XK} (h : PassesAt (CXv X.prog X.w .none) X σ E) : PassesAt (L2N.CX X.prog X.w) X σ E := fun pins H s e s1 I ⟨a, B, H1, cls, d, eu, ⟨f1, f2, f3, ft⟩, r⟩ =>
  h pins H s e s1 I ⟨a, B, H1, cls, d, eu, ⟨f1, f2, f3, traced_up (fun _ _ z => zv_n z) ft⟩, r⟩
theorem note_frame {e : Value} {env ce : Env} (h : ce.frame = env.frame) : noteFrame e ce = noteFrame e env := by
  unfold noteFrame PySem.frameOf
  rw [h]
theorem frames_turn {B B2 h h2 : Heap} {C : Addr} {oC : Obj} (gC : B.get? C = some oC) (off : ∀ b, b ≠ C → B2.get? b = B.get? b) (sb : ∀ b, b ≠ C → h2.get? b = h.get? b) : ∀ {l : List Env}, h.FunFrames B l → h2.FunFrames B2 l
  | [], _ => trivial
  | env :: l, ⟨hk, ⟨L, o, hf, hn, ho, hd⟩, hr⟩ => by
    have nL : L ≠ C := fun z => by
      rw [z, gC] at hn
      cases hn
    exact ⟨hk, ⟨L, o, hf, (off L nL).trans hn, (sb L nL).trans ho, hd⟩, frames_turn gC off sb hr⟩
theorem held_turn {B h h2 : Heap} {l : List Env} {a L C : Addr} {Z : Obj → Prop} {oC o2 : Obj} (gC : B.get? C = some oC) (g2 : h2.get? C = some o2) (sb : ∀ b, b ≠ C → h2.get? b = h.get? b) (x : HandSPX.HeldZ B l a Z L h) : HandSPX.HeldZ (B.update C fun _ => o2) l a Z L h2 := by
  obtain ⟨k1, k2, k3, oe, vs, T, oT, ts, he, hz, hd, h1, nT, hTe, hT, hdT, h3⟩ := x
  have at_ : (B.update C fun _ => o2).get? C = some o2 := Heap.get?_update_self (fun _ => o2) gC (Heap.get?_some_iff.mp g2).2
  have off : ∀ b, b ≠ C → (B.update C fun _ => o2).get? b = B.get? b := fun b n => Heap.get?_update_other _ _ (Ne.symm n)
  have aC : a ≠ C := fun z => by
    rw [z, gC] at k2
    cases k2
  have TC : T ≠ C := fun z => by
    rw [z, gC] at nT
    cases nT
  refine ⟨fun b o g => ?_, (off a aC).trans k2, frames_turn gC off sb k3, oe, vs, T, oT, ts, (sb a aC).trans he, hz, hd, h1, (off T TC).trans nT, hTe, (sb T TC).trans hT, hdT, h3⟩
  by_cases e : b = C
  · subst e
    rw [at_] at g
    cases g
    exact g2
  · rw [off b e] at g
    exact (sb b e).trans (k1 b o g)
/-- a call's exception, on the ground that is ours -/
theorem CXv.ground {cv : Value} {X : Cx} {pins : List (Addr × Obj)} {σ : L2.St} {H : Hp} {s s' : Shared} {E : XK} {u : Value} (I : Inv X pins σ H s) (c : CXv X.prog X.w cv X.stack H s E u s') :
    ∃ (a : Addr) (B : Heap) (sI : Shared) (H' : Hp) (cls : Value) (d : Option Addr), u = .ref a ∧ Inv X pins σ H' sI ∧ (∀ b o, sI.heap.get? b = some o → b ∉ frs X.stack → B.get? b = some o) ∧ sI.heap.UpToSlots s'.heap ∧
      HandSPX.FlyingZ B X.stack a (Zv cv cls d) s'.heap ∧ H' a = none ∧ s'.os = sI.os ∧ AllBare s'.gens ∧ E cls d H' := by
  obtain ⟨a, B, H', cls, d, eu, fl, hok, ub, na, os, ag, w⟩ := c
  obtain ⟨G, g1, g2⟩ := restrict s'.heap fun b => (B.get? b).isSome || decide (b ∈ frs X.stack)
  have inB : ∀ b o, B.get? b = some o → G.get? b = some o := fun b o g => (g1 b (by simp [g])).trans (fl.1 b o g)
  have inF : ∀ b, b ∈ frs X.stack → G.get? b = s'.heap.get? b := fun b m => g1 b (by simp [m])
  have out : ∀ b o, G.get? b = some o → s'.heap.get? b = some o ∧ ((B.get? b).isSome = true ∨ b ∈ frs X.stack) := fun b o g => by
    by_cases q : ((B.get? b).isSome || decide (b ∈ frs X.stack)) = true
    · rw [g1 b q] at g
      exact ⟨g, by simpa [Bool.or_eq_true] using q⟩
    · rw [g2 b (by simpa using q)] at g
      cases g
  refine ⟨a, B, { s with heap := G, gens := s'.gens, drawn := s'.drawn, toks := s'.toks }, H', cls, d, eu, ?_, fun b o g nb => ?_, Heap.UpToSlots.of_keeps fun b o g => (out b o g).1, fl, na, os, ag, w⟩
  · refine I.call (ch := []) ⟨fun b o g n nb _ => inB b o (ub.keep b o g n nb), fun b o g n m _ => ?_, fun b o g n _ => ub.free b o g n, fun b o g _ => ?_, ub.tups, ub.frzs, ub.tbls⟩ (hok.kept inB) ag fun _ z => nomatch z
    · obtain ⟨sl, q⟩ := ub.slot b o g m
      exact ⟨sl, (inF b m).trans q⟩
    · by_cases m : b ∈ frs X.stack
      · obtain ⟨sl, q⟩ := ub.slot b o g m
        exact ⟨_, (inF b m).trans q⟩
      · obtain ⟨o1, q⟩ := ub.there b o g m
        exact ⟨o1, inB b o1 q⟩
  · obtain ⟨g', r⟩ := out b o g
    refine r.elim (fun r => ?_) fun r => absurd r nb
    obtain ⟨o1, q⟩ := Option.isSome_iff_exists.mp r
    have z := fl.1 b o1 q
    rw [g'] at z
    cases z
    exact q
/-- the block's context -/
abbrev blkX (X : Cx) (s : Shared) (H : Hp) (scope : Scope) (ce : Env) (fp : List Addr) (xe : Value → Shared → Prop) : Cx := (X.blk s H scope ce fp).tr X.pn xe
/-- what the block owes an exception -/
abbrev outB (X : Cx) (ce : Env) : Value → Shared → Prop := notedBy (model X.prog X.w) X.A ce (CompFails (model X.prog X.w) X.A X.xe ce)
theorem blk_pass {cv : Value} {X : Cx} {W : WX} {pins : List (Addr × Obj)} {σ : L2.St} {H3 : Hp} {s3 : Shared} {scope : Scope} {ce : Env} {fp : List Addr} (hs : X.stack = X.env :: X.outer) (hf : X.env.frame = some X.env.locals) (tk : TakesV cv X W) (I3 : Inv X pins σ H3 s3)
    (hce : ce.frame = X.env.frame) (hC : s3.heap.objs.size ≤ ce.locals) (hfp : ∀ b ∈ fp, (b ∈ X.ex ∨ X.s_0.heap.objs.size ≤ b) ∧ b ≠ X.env.locals ∧ (∀ x c, X.env.cells.lookup x = some c → c ≠ b) ∧ ∀ p ∈ X.pn ++ pins, p.1 ≠ b) (σ1 : L2.St) :
    PassesAt (CXv X.prog X.w cv) (blkX X s3 H3 scope ce fp (outB X ce)) σ1 (WE (fun cls d _ H' => W cls d σ H') σ1) := by
  intro pins1 H1 s1 e s' I1 c
  obtain ⟨a, B, sI, H', cls, d, eu, IB, nb, up, fl, na, os, ag, w⟩ := CXv.ground I1 c
  subst eu
  have J : Inv X pins σ H' sI := I3.call' (ch := fp) IB.os IB.base IB.hok IB.bare hfp
  have fr : X.A.frames = some (X.env :: X.outer) := by rw [J.ok.frames, hs]
  have fl2 : HandSPX.FlyingZ B (X.env :: X.outer) a (Zv cv cls d) s'.heap := by rw [← hs]; exact fl
  have nC : ce.locals ∉ frs X.stack := fun z => by
    obtain ⟨_, o, g, _⟩ := I3.stack.mem z
    exact absurd (Heap.lt_size g) (Nat.not_lt.mpr hC)
  obtain ⟨m, hn, _⟩ := IB.loc
  obtain ⟨oC, es, ep, gC, dC, rC⟩ := hn
  have gB : B.get? ce.locals = some oC := nb _ _ gC nC
  show wpAny _ _ (noteFrame (.ref a) ce) _ _ _
  rw [note_frame hce]
  refine PXN.looks_onZ Zv.steady fr hf fl2 fun h2 held up2 => ⟨m, ⟨oC, es, ep, held.1 _ _ gB, dC, rC⟩, fun h3 m3 hn3 sb => ?_⟩
  obtain ⟨o3, es3, ep3, g3, d3, _⟩ := hn3
  have held3 := held_turn gB g3 (fun b n => sb.2 b n) held
  obtain ⟨_, f1, f2, f3, f4, f5⟩ := I3.fpOk hC (H' := H') IB.free
  have at_ : ∀ {G : Heap}, G.get? ce.locals = some oC → (G.update ce.locals fun _ => o3).get? ce.locals = some o3 := fun g => Heap.get?_update_self (fun _ => o3) g (Heap.get?_some_iff.mp g3).2
  have off : ∀ (G : Heap) b, b ≠ ce.locals → (G.update ce.locals fun _ => o3).get? b = G.get? b := fun G b n => Heap.get?_update_other _ _ (Ne.symm n)
  have Jt : Inv X pins σ H' { sI with heap := sI.heap.update ce.locals fun _ => o3, toks := sI.toks } := J.turned (it := ce.locals) (fun b o n g => (off _ b n).trans g) IB.free f1 f3 f4 f5
  obtain ⟨_, _, _, oe, vs, T, oT, ts, he, hz, hd, h1, _⟩ := id held3
  unfold PySem.passOn
  refine wpAny_bind (wpAny_field he hd h1 ?_); rw [if_neg (show ¬ ((Value.ref T == Value.none) = true) by simp), hce, hf]
  have fin : wpAny (model X.prog X.w) X.A (setFlight (.ref a) (some X.env.locals)) (fun _ s4 => wpAny (model X.prog X.w) X.A (throw (.ref a) : Sem Value) (fun _ _ => False) X.xe s4) X.xe { s' with heap := h3 } := by
    refine HandSPX.setFlight_onZ held3 fun h4 held4 up4 => wpAny_throw (tk _ _ ⟨a, B.update ce.locals fun _ => o3, _, pins, σ, H', cls, d, rfl, Jt, fun b o g n => ?_, fun b o g nf => ?_, .inr (.inr (by rw [hs]; exact held4)), na, os, ag, w⟩)
    · by_cases e : b = ce.locals
      · subst e
        rw [at_ gB]
        rw [at_ gC] at g
        exact g
      · have g : (sI.heap.update ce.locals fun _ => o3).get? b = some o := g
        rw [off _ b e] at g ⊢
        exact nb b o g n
    · by_cases e : b = ce.locals
      · subst e
        have g : (sI.heap.update ce.locals fun _ => o3).get? ce.locals = some o := g
        rw [at_ gC] at g
        cases g
        exact up4 _ _ g3 nf
      · have g : (sI.heap.update ce.locals fun _ => o3).get? b = some o := g
        rw [off _ b e] at g
        obtain ⟨s1, q1⟩ := up b o g nf
        obtain ⟨s2, q2⟩ := up2 b _ q1 nf
        have q3 : h3.get? b = some { o with slots := s2 } := (sb.2 b e).trans q2
        obtain ⟨sl, q4⟩ := up4 b { o with slots := s2 } q3 nf
        exact ⟨sl, q4⟩
  first
  | exact wpAny_bind (wpAny_pure (wpAny_bind fin))
  | exact wpAny_bind fin
/-- the end of a list's iterator -/
def EndL (X : Cx) : Prop := ∀ (pins : List (Addr × Obj)) (σ : L2.St) (H : Hp) (s : Shared), Inv X pins σ H s → ∀ (it l : Addr) (i : Nat) (items : Array Value) (Q : Option Value → Shared → Prop) (E : Value → Shared → Prop), s.heap.IsListIter it l i → s.heap.IsList l items →
  items[i]? = none → (∀ h', Heap.ExtBut it s.heap h' → Q none { s with heap := h' }) → wpAny (model X.prog X.w) X.A (pyNext (.ref it)) Q E s
theorem endL_calm {X : Cx} (hc : X.calm = true) : EndL X := fun _ _ _ _ I _ _ _ _ _ _ hi hl hx q => wpAny_pyNext_list_end (I.ok.hd hc) hi hl hx q
theorem endL_hot {X : Cx} {a ec : Addr} (hc : DL.HotX X a ec) : EndL X := fun _ _ _ _ I _ _ _ _ _ _ hi hl hx q => list_endG (hc.at I) hi hl hx q
/-- [elt for x in a list], x in slot i -/
def tLcX (K : PySem.W.Frag) (tl : TE) (i : Nat) (te : WX → TE) (W : WX) : TE := fun σ H Q => tl σ H fun x H1 => ∃ (a : Addr) (vs : List V), x = .ref a ∧ SqL K H1 a vs ∧ ∀ D, H1 D = none → ∃ Pv : Nat → Hp → Prop, Pv 0 (upd H1 D (.lst [])) ∧ (∀ k H, Pv k H → SqL K H a vs) ∧
  (∀ k x H, vs[k]? = some x → Pv k H → te (fun cls d _ H' => W cls d σ H') ((wipe σ [i]).set i (some x)) H fun y H4 => ∃ acc, H4 D = some (.lst acc) ∧ acc.length < sizeLine ∧ Pv (k + 1) (upd H4 D (.lst (acc ++ [y])))) ∧ ∀ H, Pv vs.length H → Q (.ref D) H
theorem pe_lcX {X : Cx} {cv : Value} {W : WX} {tg elt iter : Expr} {x : Str} {i : Nat} {pos : Pos} {scope : Scope} {tl : TE} {te : WX → TE} (hs : X.stack = X.env :: X.outer) (hf : X.env.frame = some X.env.locals) (hN : X.N.Nodup) (tk : TakesV cv X W) (hl : PE X iter tl) (ok : BlkOk X.N X.env.scope scope [(x, i)])
    (hend : ∀ (s : Shared) (H : Hp) (C : Addr) (cl : List (Str × Addr)) (fp : List Addr) (xe : Value → Shared → Prop), EndL (blkX X s H scope (compEnvC scope cl C X.env) fp xe))
    (hg : ∀ (s : Shared) (H : Hp) (C : Addr) (cl : List (Str × Addr)) (fp : List Addr) (xe : Value → Shared → Prop), PG (blkX X s H scope (compEnvC scope cl C X.env) fp xe) tg (gName i))
    (he : ∀ (s : Shared) (H : Hp) (C : Addr) (cl : List (Str × Addr)) (fp : List Addr) (Wb : WX) (xe : Value → Shared → Prop), (∀ σ, PassesAt (CXv X.prog X.w cv) (blkX X s H scope (compEnvC scope cl C X.env) fp xe) σ (WE Wb σ)) → PE (blkX X s H scope (compEnvC scope cl C X.env) fp xe) elt (te Wb))
    (hsf : ∀ y, foldedSetIterable iter X.env y = pure y := by intro _; rfl) : PE X (.ListComp elt [⟨tg, iter, [], 0⟩] scope pos) (tLcX X.K tl i te W) := by
  refine ⟨fun pins s σ H Q I h => ?_⟩
  have cap : ∀ y ∈ scope.names, y.2 = .free → ∃ c, X.env.cells.lookup y.1 = some c := fun y hy e => (ok.free y hy e).elim (fun k => I.ok.has _ (.inl k)) fun k => I.ok.has _ (.inr k)
  rw [eval_ListComp]
  refine comprehension_at (use := none) rfl hsf (closure_ok cap) ok.kind (fun y hy e => by rw [ok.uniq y hy, e]) (thn (hl.run pins s σ H _ I h) fun xv s1 ⟨xl, H1, I1, r1, a, vs, ex, hq, hD⟩ => ?_)
  subst ex
  obtain rfl : xv = Value.ref a := r1
  obtain ⟨its, rv, pl, hz⟩ := I1.list hq
  refine wpAny_pyIter_list pl.isList (wpAny_newObj_type (newEnv_comp ?_) (by show 0 ≤ sizeLine; decide))
  generalize hit : s1.heap.objs.size = it
  have f1 : FpOk X pins H1 it := I1.fpOk (Nat.le_of_eq hit) (I1.hok.fresh (Nat.le_of_eq hit))
  generalize hs2 : ({ s1 with heap := s1.heap.push { cls := .type "list_iterator", data := .fields #[.ref a, .int 0 0] } } : Shared) = s2
  have e2 : s2.heap = s1.heap.push { cls := .type "list_iterator", data := .fields #[.ref a, .int 0 0] } := by rw [← hs2]
  have I2 : Inv X pins σ H1 s2 := by
    rw [← hs2]
    exact I1.kept (t' := s1.toks) fun b o g => Heap.get?_push_of_some _ g
  have st2 : s2.heap.IsListIter it a 0 := by
    rw [e2, ← hit]
    exact ⟨_, Heap.get?_push_size _ rfl, rfl, rfl⟩
  have lt2 : it < s2.heap.objs.size := by
    rw [e2, Heap.size_push, hit]
    exact Nat.lt_succ_self _
  generalize hDD : s2.heap.objs.size = D
  have hDn : H1 D = none := I2.hok.fresh (Nat.le_of_eq hDD)
  obtain ⟨Pv, p0, pq, pstep, pend⟩ := hD D hDn
  generalize hs3 : ({ s2 with heap := s2.heap.push { cls := .type "list", data := .seq ([] : List Value).toArray } } : Shared) = s3
  have e3 : s3.heap = s2.heap.push { cls := .type "list", data := .seq ([] : List Value).toArray } := by rw [← hs3]
  have I3 : Inv X pins σ (upd H1 D (.lst [])) s3 := by
    rw [← hs3]
    refine I2.laid (t' := s2.toks) (fun b o g => Heap.get?_push_of_some _ g) (Nat.le_of_eq hDD) ⟨Nat.zero_le _, [], 0, .nil, ?_⟩
    rw [← hDD]
    exact Heap.get?_push_size _ rfl
  have st3 : s3.heap.IsListIter it a 0 := by
    rw [e3]
    exact st2.at fun o g => Heap.get?_push_of_some _ g
  have lt3 : it < s3.heap.objs.size := by
    rw [e3, Heap.size_push]
    exact Nat.lt_succ_of_lt lt2
  have f3 : FpOk X pins (upd H1 D (.lst [])) it := ⟨by rw [upd_ne (by rw [← hDD]; exact Nat.ne_of_lt lt2)]; exact f1.1, f1.2⟩
  have hfp : ∀ b ∈ [it], (b ∈ X.ex ∨ X.s_0.heap.objs.size ≤ b) ∧ b ≠ X.env.locals ∧ (∀ x c, X.env.cells.lookup x = some c → c ≠ b) ∧ ∀ p ∈ X.pn ++ pins, p.1 ≠ b := fun b hb => by
    rw [List.mem_singleton.mp hb]
    exact ⟨f3.2.2.2.1, f3.2.1, f3.2.2.2.2.1, f3.2.2.2.2.2⟩
  have I4 := block_start (fp := [it]) I3 ok hN fun b hb => by rw [List.mem_singleton.mp hb]; exact ⟨f3, lt3⟩
  have gg := hg s3 (upd H1 D (.lst [])) s3.heap.objs.size (cellsFrom (s3.heap.objs.size + 1) scope.names (cloFrom X.env.cells scope.names [])) [it]
  have ge := he s3 (upd H1 D (.lst [])) s3.heap.objs.size (cellsFrom (s3.heap.objs.size + 1) scope.names (cloFrom X.env.cells scope.names [])) [it]
  have gn := hend s3 (upd H1 D (.lst [])) s3.heap.objs.size (cellsFrom (s3.heap.objs.size + 1) scope.names (cloFrom X.env.cells scope.names [])) [it]
  show codeAny _ _ (.compStart (.ListComp elt [⟨tg, iter, [], 0⟩] scope pos) 0 (.ref it) (.ref D) (compEnvC scope (cellsFrom (s3.heap.objs.size + 1) scope.names (cloFrom X.env.cells scope.names [])) s3.heap.objs.size X.env))
    (compEnds (model X.prog X.w) X.A X.xe none (EP X pins σ Q) (.ref D) (compEnvC scope (cellsFrom (s3.heap.objs.size + 1) scope.names (cloFrom X.env.cells scope.names [])) s3.heap.objs.size X.env)) { s3 with heap := pushCells (s3.heap.push { cls := .type "dict", data := .dict #[] }) scope.names }
  have cf : (compEnvC scope (cellsFrom (s3.heap.objs.size + 1) scope.names (cloFrom X.env.cells scope.names [])) s3.heap.objs.size X.env).frame = X.env.frame := rfl
  have cL : (compEnvC scope (cellsFrom (s3.heap.objs.size + 1) scope.names (cloFrom X.env.cells scope.names [])) s3.heap.objs.size X.env).locals = s3.heap.objs.size := rfl
  generalize compEnvC scope (cellsFrom (s3.heap.objs.size + 1) scope.names (cloFrom X.env.cells scope.names [])) s3.heap.objs.size X.env = ce at I4 gg ge gn cf cL ⊢
  generalize hs4 : ({ s3 with heap := pushCells (s3.heap.push { cls := .type "dict", data := .dict #[] }) scope.names } : Shared) = s4 at I4 ⊢
  have k4 : ∀ b o, s3.heap.get? b = some o → s4.heap.get? b = some o := fun b o g => by
    rw [← hs4]
    exact pushCells_keeps _ _ _ _ (Heap.get?_push_of_some _ g)
  generalize hH3 : upd H1 D (.lst []) = H3 at I3 I4 gg ge gn p0 f3
  have pass := blk_pass (scope := scope) (ce := ce) (fp := [it]) hs hf tk I3 cf (Nat.le_of_eq cL.symm) hfp
  have I5 : Inv (blkX X s3 H3 scope ce [it] (outB X ce)) [] (wipe σ [i]) H3 s4 := ⟨I4.ok.toTry _ _, I4.os, I4.bare, I4.base, I4.loc, I4.cell, I4.free, I4.freeC, fun p hp => by
    have hp : p ∈ X.pn := (List.mem_append.mp hp).elim id fun z => nomatch z
    obtain ⟨g, n, nl, nf, nc⟩ := I3.pin p (List.mem_append_left _ hp)
    exact ⟨k4 _ _ g, n, (fun z => absurd (Heap.lt_size g) (by rw [z, cL]; exact Nat.lt_irrefl _)), (fun z => (List.mem_cons.mp (I3.stkSub _ z)).elim nl nf), nc⟩, I4.hok, I4.len⟩
  have gg := gg (outB X ce)
  have ge := ge _ (outB X ce) pass
  have gn := gn (outB X ce)
  have fb : ∀ {σ' : L2.St} {H' : Hp} {s' : Shared}, Inv (blkX X s3 H3 scope ce [it] (outB X ce)) [] σ' H' s' → H' it = none → FpOk (blkX X s3 H3 scope ce [it] (outB X ce)) [] H' it := fun I' n =>
    ⟨n, (I'.ok.exf it List.mem_cons_self).1, I'.ok.exfs it List.mem_cons_self, .inl List.mem_cons_self, fun x c e => (I'.ok.exf it List.mem_cons_self).2 x c e, fun p hp => f3.2.2.2.2.2 p (List.mem_append_left _ ((List.mem_append.mp hp).elim id fun z => nomatch z))⟩
  have loop : codeAny (model X.prog X.w) X.A (.compLoop (.ListComp elt [⟨tg, iter, [], 0⟩] scope pos) 0 (.ref it) (.ref D) ce) (compEnds (model X.prog X.w) X.A X.xe none (EP X pins σ Q) (.ref D) ce) s4 := by
    refine compLoop_any (fun n s' => ∃ (k : Nat) (H' : Hp), n = vs.length - k ∧ k ≤ vs.length ∧ Inv (blkX X s3 H3 scope ce [it] (outB X ce)) [] (wipe σ [i]) H' s' ∧ s'.heap.IsListIter it a k ∧ H' it = none ∧ Pv k H') ?_ vs.length ⟨0, H3, rfl, Nat.zero_le _, I5, st3.at fun o g => k4 _ _ g, f3.1, p0⟩
    rintro n s5 ⟨k, H5, en, hk, J5, st5, n5, w5⟩
    subst en
    obtain ⟨its5, rv5, p5, hz5⟩ := J5.list (pq k H5 w5)
    obtain ⟨b0, b1, b2, b3, b4, b5⟩ := fb J5 n5
    by_cases hlt : k < vs.length
    · obtain ⟨u, hu, ru⟩ := rv5.get (List.getElem?_eq_getElem hlt)
      refine wpAny_pyNext_list_item st5 p5.isList (x := u) (by simpa using hu) fun h' st' sb => ?_
      have J6 : Inv (blkX X s3 H3 scope ce [it] (outB X ce)) [] (wipe σ [i]) H5 { s5 with heap := h' } := J5.turned (t' := s5.toks) (fun b o nb g => (sb.2 b nb).trans g) b0 b1 b3 b4 b5
      obtain ⟨oi, g6, c6, d6⟩ := id st'
      refine go_of (s := { s5 with heap := h' }) g6 c6 d6 (by decide) ?_
      have J7 := J6.pinned (fp := [it]) (fun b hb => by rw [List.mem_singleton.mp hb]; exact ⟨b0, b1, b2, b3, b4, b5⟩) fun b hb => by rw [List.mem_singleton.mp hb]; exact ⟨oi, g6, fun v z => by rw [d6] at z; cases z⟩
      refine thn (gg.run _ _ (wipe σ [i]) H5 vs[k] u (fun σ2 H2 => σ2 = (wipe σ [i]).set i (some vs[k]) ∧ H2 = H5) J7 ru ⟨rfl, rfl⟩) fun _ s8 ⟨σ8, H8, J8, e8, eH⟩ => ?_
      subst e8 eH
      refine wpAny_tests_nil ?_
      rw [if_pos rfl]
      refine thn (ge.run _ s8 _ H8 _ J8 (pstep k vs[k] H8 (List.getElem?_eq_getElem hlt) w5)) fun z s10 ⟨yv, H10, J10, r10, acc, hD10, hz10, nx⟩ => ?_
      refine app_ok (X := blkX X s3 H3 scope ce [it] (outB X ce)) J10 hD10 hz10 r10 fun s11 J11 => ⟨vs.length - (k + 1), by omega, k + 1, _, rfl, hlt, (J11.unpinned (pins := [])).weak (by rw [List.length_set]) fun j v e => ?_, ?_, ?_, nx⟩
      · have nj : i ≠ j := fun z => (wipe_some e).2 (by rw [z]; exact List.mem_singleton.mpr rfl)
        rw [List.getElem?_set_ne nj]
        exact e
      · have pn := J11.pin (it, oi) (List.mem_append_right _ (List.mem_append_right _ (mem_pinsAt (List.mem_singleton.mpr rfl) g6)))
        exact ⟨oi, pn.1, c6, d6⟩
      · exact (J11.pin (it, oi) (List.mem_append_right _ (List.mem_append_right _ (mem_pinsAt (List.mem_singleton.mpr rfl) g6)))).2.1
    · have ek : k = vs.length := by omega
      subst ek
      have hl5 := rv5.length
      refine gn _ _ _ _ J5 it a vs.length its5.toArray _ _ st5 p5.isList (by simp; omega) fun h' eb => ?_
      have J6 : Inv (blkX X s3 H3 scope ce [it] (outB X ce)) [] (wipe σ [i]) H5 { s5 with heap := h' } := J5.turned (t' := s5.toks) (fun b o nb g => eb b o nb g) b0 b1 b3 b4 b5
      have J7 : Inv X pins σ H5 { s5 with heap := h' } := I3.call' (ch := [it]) J6.os J6.base J6.hok J6.bare hfp
      obtain ⟨m, hn, _⟩ := J6.loc
      obtain ⟨c0, c1, c2, c3, c4, c5⟩ := I3.fpOk (Nat.le_of_eq cL.symm) (H' := H5) J6.free
      exact ⟨m, hn, fun h2 sb => ⟨.ref D, H5, J7.turned (t' := s5.toks) (fun b o nb g => (sb.2 b nb).trans g) c0 c1 c3 c4 c5, rfl, pend H5 w5⟩⟩
  exact codeAny_compStart_list loop (wpAny_pyIter_listiter (st3.at fun o g => k4 _ _ g) loop)

/-! ### over data -/
def lcXL (D0 : Addr) (i : Nat) (te : DE) (δ : DS) (X : Addr → Mem → Prop) (Q : Mem → Prop) : List D → List D → Mem → Prop
  | [], _, M => Q M
  | x :: xs, acc, M => te (δ.set i (some x)) M (fun d M2 => M2 D0 = some (.lst acc) ∧ lcXL D0 i te δ X Q xs (acc ++ [d]) (M2.set D0 (.lst (acc ++ [d])))) fun cls _ M2 => X cls M2
def lstOf (d : D) (F : List D → Prop) : Prop := match d with
  | .lst xs => F xs
  | _ => False
theorem lstOf_lst {xs : List D} {F : List D → Prop} : lstOf (.lst xs) F = F xs := rfl
def dLcXM (ti : DE) (i : Nat) (te : DE) : DE := fun δ M Q X => ti δ M (fun x M1 => lstOf x fun items => ∀ D0, M1 D0 = none → lcXL D0 i te (dwipe δ [i]) (fun cls M2 => X cls δ M2) (fun M2 => Q (.obj D0) M2) items [] (M1.set D0 (.lst []))) X
abbrev dLcX (ti : DE) (i : Nat) (te : DE) : DE := dFrz (dLcXM ti i te)
theorem up_lcX {K : PySem.W.Frag} {W : WX} {ti te : DE} {i : Nat} {σ : L2.St} {H : Hp} {Q : VK} (h : up K W (dLcXM ti i te) σ H Q) : tLcX K (up K W ti) i (fun Wb => up K Wb te) W σ H Q := by
  obtain ⟨G, M, δ, Q', X', ok, sl, h, hq, hx⟩ := h
  refine ⟨G, M, δ, _, X', ok, sl, h, fun d M1 v H1 G1 h1 ok1 e1 r1 => ?_, hx⟩
  unfold lstOf at h1
  split at h1
  · rename_i items
    cases r1 with
    | @lst a vs _ hg r z =>
      refine ⟨a, vs, rfl, SqL.of (ok1.sub _ _ hg), fun D0 hD => ?_⟩
      have gD := ok1.gnone hD
      refine ⟨fun k H2 => k ≤ items.length ∧ ∃ (G2 : Hp) (M2 : Mem) (acc : List D), Ok K H2 G2 M2 ∧ Same G1 G2 ∧ acc.length ≤ k ∧ M2 D0 = some (.lst acc) ∧ lcXL D0 i te (dwipe δ [i]) (fun cls M2 => X' cls δ M2) (fun M2 => Q' (.obj D0) M2) (items.drop k) acc M2,
        ⟨Nat.zero_le _, G1, M1.set D0 (.lst []), [], ok1.write gD ⟨[], upd_same, .nil, Nat.zero_le _⟩, Same.refl _, Nat.le_refl _, Mem.set_same, h1 D0 (ok1.mnone hD)⟩, fun k H2 ⟨_, G2, M2, _, ok2, e2, _⟩ => SqL.of (ok2.sub _ _ (e2 _ _ hg)), fun k x H2 ex ⟨hk, G2, M2, acc, ok2, e2, ha, hm, hl⟩ => ?_, fun H2 ⟨hk, G2, M2, acc, ok2, e2, ha, hm, hl⟩ => ?_⟩
      · obtain ⟨d, ed, rx⟩ := r.get ex
        obtain ⟨hlt, ed⟩ := List.getElem?_eq_some_iff.mp ed
        subst ed
        rw [List.drop_eq_getElem_cons hlt] at hl
        refine ⟨G2, M2, (dwipe δ [i]).set i (some items[k]), _, _, ok2, Slots.set (.yes (rx.mono e2)) i (Slots.wipe (sl.mono (e1.trans e2)) [i]), hl, fun d M5 v H5 G5 h5 ok5 e5 r5 => ?_, fun cls δ5 M5 σ5 H5 G5 h5 ok5 e5 _ => hx cls δ M5 σ H5 G5 h5 ok5 (e1.trans (e2.trans e5)) (sl.mono (e1.trans (e2.trans e5)))⟩
        obtain ⟨h5, h6⟩ := h5
        obtain ⟨g5, ws, hH, q, z5⟩ := ok5.mem _ _ h5
        exact ⟨ws, hH, by rw [q.len]; omega, hlt, G5, _, _, ok5.write (m := .lst (acc ++ [d])) g5 ⟨_, upd_same, q.append (.one r5), by rw [List.length_append, List.length_singleton]; omega⟩, e2.trans e5, by rw [List.length_append, List.length_singleton]; omega, Mem.set_same, h6⟩
      · rw [r.len, List.drop_length] at hl
        exact hq _ _ _ _ _ hl ok2 (e1.trans e2) (.obj D0)
  · exact h1.elim
section
variable {X : Cx} {cv : Value} {W : WX} {tg elt iter : Expr} {x : Str} {i : Nat} {pos : Pos} {scope : Scope} {ti te : DE}
theorem pd_lcX (hs : X.stack = X.env :: X.outer) (hf : X.env.frame = some X.env.locals) (hN : X.N.Nodup) (tk : TakesV cv X W) (hl : PD X W iter ti) (ok : BlkOk X.N X.env.scope scope [(x, i)])
    (hend : ∀ (s : Shared) (H : Hp) (C : Addr) (cl : List (Str × Addr)) (fp : List Addr) (xe : Value → Shared → Prop), EndL (blkX X s H scope (compEnvC scope cl C X.env) fp xe))
    (hg : ∀ (s : Shared) (H : Hp) (C : Addr) (cl : List (Str × Addr)) (fp : List Addr) (xe : Value → Shared → Prop), PG (blkX X s H scope (compEnvC scope cl C X.env) fp xe) tg (gName i))
    (he : ∀ (s : Shared) (H : Hp) (C : Addr) (cl : List (Str × Addr)) (fp : List Addr) (Wb : WX) (xe : Value → Shared → Prop), (∀ σ, PassesAt (CXv X.prog X.w cv) (blkX X s H scope (compEnvC scope cl C X.env) fp xe) σ (WE Wb σ)) → PD (blkX X s H scope (compEnvC scope cl C X.env) fp xe) Wb elt te)
    (hsf : ∀ y, foldedSetIterable iter X.env y = pure y := by intro _; rfl) : PD X W (.ListComp elt [⟨tg, iter, [], 0⟩] scope pos) (dLcX ti i te) :=
  pd_frz (PEw (pe_lcX (te := fun Wb => up X.K Wb te) hs hf hN tk hl ok hend hg he hsf) fun _ _ _ h => up_lcX h)
theorem HotX.blk {a ec : Addr} {s : Shared} {H : Hp} {ce : Env} {fp : List Addr} {xe : Value → Shared → Prop} (h : DL.HotX X a ec) : DL.HotX (blkX X s H scope ce fp xe) a ec := h
end
section
variable {X : Cx} {W : WX} {k : Nat} {ps : List Str} {m : FDm} {x : Str} {p pos : Pos} {e : Expr} {es : List Expr} {t : DA}
/-- a call where nothing is handled; what the callee raises passes -/
theorem pd_callP (hx : ∀ σ, PassesAt (L2N.CX X.prog X.w) X σ (WE W σ)) (F : ∃ (f : Addr) (fd : FuncData), X.mg x = some (.ref f) ∧ PySem.W.keepIn X.K (.ref f) = true ∧ Binds X.K fd ps [] ∧ FnOk X.prog X.w X.K X.mg X.base (L2N.CX X.prog X.w) k f fd ps (spD X.K m)) (hr : Room k X.A) (hg : Gl X x)
    (ha : PDA X W (e :: es) t) (hdb : (x == ("__debug__" : Str)) = false := by decide) (he : starEach (e :: es) X.env = (false, eval e X.env) :: starEach es X.env := by rfl) (hpl : (backTo pos (starEach es X.env)).any (·.1) = false := by rfl) :
    PD X W (.Call (.Name x p) (e :: es) [] pos) (dFn m t) := by
  obtain ⟨f, fd, hm, hk, hb, F⟩ := F
  exact PEw (pe_callS (E := fun σ => WE W σ) F hr hg hm hk hb hx ha hdb he hpl) fun σ H Q ⟨G, M, δ, Q', X', ok, sl, h, hq, hx⟩ => ⟨G, M, δ, _, X', ok, sl, h, fun ds M1 vs H1 G1 h1 ok1 e1 r1 =>
    ⟨G1, M1, ds, Q', _, ok1, r1, h1, fun d M2 v H2 G2 h2 ok2 e2 r2 => hq _ _ _ _ _ h2 ok2 (e1.trans e2) r2, fun cls M2 H2 G2 h2 ok2 e2 => hx _ _ _ _ _ _ h2 ok2 (e1.trans e2) (sl.mono (e1.trans e2))⟩, hx⟩
end
end DL

namespace My
open PySem PySem.Spec PyProof.Rows L2 DL
local macro_rules | `(tactic| walk_at "dl") => `(tactic| try simp -implicitDefEqProofs only [DL.dNext, DL.dSeq, DL.dExpr, DL.dRet, DL.dIfS, DL.dSet, DL.dCont, DL.dRaise, DL.dFor, DL.dgName, DL.dgPair, DL.dTry, DL.dFn, DL.dMth, DL.dMk, DL.dFld, DL.dFldS, DL.dPut, DL.dVar, DL.slot, DL.dC, DL.dOp, DL.dUn, DL.oSub, DL.oMul, DL.oDiv, DL.oMod, DL.oPow, DL.oLt, DL.oLe, DL.oGt, DL.oGe, DL.oEq, DL.oNe, DL.oIn, DL.oNotIn, DL.dB, DL.dIsN, DL.dChain, DL.dAnd, DL.dOr, DL.dNot, DL.dAndV, DL.dOrV, DL.dNotV, DL.dIf, DL.dNil, DL.dCons, DL.few, DL.dLst, DL.dTup, DL.dLstM, DL.dFrz, DL.dPairs, DL.dDisp, DL.dDic0, DL.dSl, DL.dNoPart, DL.dCall, DL.dMet0L, DL.dMet, DL.dItems, DL.dRange1, DL.dEnum, DL.dLcM, DL.dwipe, DL.startD, DL.dNever, DL.el_some, DL.elL_lst, DL.elD_dic, DL.elI_ins, DL.res_non, DL.res_bl, DL.res_int, DL.res_str, DL.res_lst, DL.res_tupE, DL.res_dic, DL.res_scr, DL.res_ty, DL.oAdd_eq, DL.addR_int, DL.addR_str, DL.addR_lst, DL.addR_tup, DL.oAddM_eq, DL.addMR_lst, DL.oInt_eq, DL.intR_int, DL.oInt0_eq, DL.int0R_int, DL.oNeg_eq, DL.negR_int, DL.oEqN_eq, DL.eqR_some, DL.eqR_none, DL.eqS_non_non, DL.eqS_non_int, DL.eqS_non_bl, DL.eqS_non_str, DL.eqS_non_lst, DL.eqS_non_tup, DL.eqS_int_non, DL.eqS_int_int, DL.eqS_int_bl, DL.eqS_int_str, DL.eqS_int_lst, DL.eqS_int_tup, DL.eqS_bl_non, DL.eqS_bl_int, DL.eqS_bl_bl, DL.eqS_bl_str, DL.eqS_bl_lst, DL.eqS_bl_tup, DL.eqS_str_non, DL.eqS_str_int, DL.eqS_str_bl, DL.eqS_str_str, DL.eqS_str_lst, DL.eqS_str_tup, DL.eqS_lst_non, DL.eqS_lst_int, DL.eqS_lst_bl, DL.eqS_lst_str, DL.eqS_lst_lst, DL.eqS_lst_tup, DL.eqS_tup_non, DL.eqS_tup_int, DL.eqS_tup_bl, DL.eqS_tup_str, DL.eqS_tup_lst, DL.eqS_tup_tup, DL.eqS_obj_non, DL.eqS_non_obj, DL.eqS_obj_int, DL.eqS_int_obj, DL.eqS_obj_bl, DL.eqS_bl_obj, DL.eqS_obj_str, DL.eqS_str_obj, DL.eqS_obj_lst, DL.eqS_lst_obj, DL.eqS_obj_tup, DL.eqS_tup_obj, DL.eqS_obj_obj, DL.oInN_eq, DL.inR_lst, DL.inR_tup, DL.inR_str, DL.flatD_non, DL.flatD_bl, DL.flatD_int, DL.flatD_str, DL.asB_bl, DL.isN_non, DL.isN_bl, DL.isN_int, DL.isN_str, DL.isN_lst, DL.isN_tup, DL.isN_dic, DL.isN_scr, DL.isN_ty, DL.isN_obj, DL.frz_non, DL.frz_bl, DL.frz_int, DL.frz_str, DL.frz_lst, DL.frz_tup, DL.frz_dic, DL.frz_scr, DL.frz_ty, DL.oIx_eq, DL.ixR_lst, DL.ixR_tup, DL.ixR_scr, DL.ixR_str, DL.ixR_dic, DL.nth_0, DL.nth_1, DL.nth_2, DL.nth_3, DL.oSl_eq, DL.slR_lst, DL.slR_tup, DL.slR_str, DL.dPart_eq, DL.partR_int, DL.on1_cons, DL.on2_cons, DL.lenD_lst, DL.lenD_tup, DL.lenD_scr, DL.lenD_str, DL.intD_int, DL.intD_bl, DL.strD_int, DL.int2_int, DL.listM_lst, DL.listF_lst, DL.listM_tup, DL.listF_tup, DL.dictM_dic, DL.isiD_ty, DL.oAppend_obj, DL.oInsert_obj, DL.oPop_obj, DL.oPopAt_obj, DL.isLst_eq, DL.isLstR_lst, DL.isStr_str, DL.oSplit_str, DL.oJoin_str, DL.itemsOf_lst, DL.itemsOf_tup, DL.itemsOf_str, DL.rng1_int, DL.enumOf_lst, DL.two_tup, DL.insIs_obj, DL.getFld_obj, DL.setFld_obj, DL.putDic_obj, DL.isB_str_non, DL.isB_str_bl, DL.isB_str_int, DL.isB_str_str, DL.isB_str_lst, DL.isB_str_tup, DL.isB_str_dic, DL.isB_int_non, DL.isB_int_bl, DL.isB_int_int, DL.isB_int_str, DL.isB_int_lst, DL.isB_int_tup, DL.isB_int_dic, DL.isB_bool_non, DL.isB_bool_bl, DL.isB_bool_int, DL.isB_bool_str, DL.isB_bool_lst, DL.isB_bool_tup, DL.isB_bool_dic, DL.isB_list_non, DL.isB_list_bl, DL.isB_list_int, DL.isB_list_str, DL.isB_list_lst, DL.isB_list_tup, DL.isB_list_dic, DL.isB_tuple_non, DL.isB_tuple_bl, DL.isB_tuple_int, DL.isB_tuple_str, DL.isB_tuple_lst, DL.isB_tuple_tup, DL.isB_tuple_dic, Bool.cond_true, Bool.cond_false, L2.CDiv, Int.reduceLT, Int.reduceLE, true_and, and_true, cond_true, cond_false, List.map_cons, List.map_nil, List.set_cons_zero, List.set_cons_succ, List.set_nil, DL.cpow_109, DL.pow_109, DL.frz_set_lst, DL.frz_set_dic, Bool.not_true, Bool.not_false, DL.itemsOf_obj, DL.enumOf_obj, DL.all_still])
/-- the wishes as texts -/
def tr : Str := "read"
def tw : Str := "write"
theorem tr_ne_tw : ¬ tr = tw := by decide +kernel
theorem tw_ne_tr : ¬ tw = tr := by decide +kernel
/-- a cell of the script -/
def cellAt (ns : List Int) (k : Int) : Int := (ns[k.toNat]?).getD 0
/-- the signs of names -/
def signsL : List Nat := (Str.ofString "abcdefghijklmnopqrstuvwxyz0123456789").cps.toList
def nameOk (z : Str) : Bool := decide (1 ≤ z.length) && decide (z.length ≤ 12) && z.cps.toList.all fun c => decide (c ∈ signsL)
def isName : D → Bool
  | .str z => nameOk z
  | _ => false
def isWish : D → Bool
  | .str z => decide (z = Str.ofString "read") || decide (z = Str.ofString "write")
  | _ => false
/-- data whose kind is looked at -/
def okD : D → Bool
  | .scr _ => false
  | .obj _ => false
  | .ty _ => false
  | _ => true
theorem okD_non : okD .non = true := rfl
theorem okD_bl (b : Bool) : okD (.bl b) = true := rfl
theorem okD_int (b : Int) : okD (.int b) = true := rfl
theorem okD_str (b : Str) : okD (.str b) = true := rfl
theorem okD_lst (b : List D) : okD (.lst b) = true := rfl
theorem okD_tup (b : List D) : okD (.tup b) = true := rfl
theorem okD_dic (b : List (Str × D)) : okD (.dic b) = true := rfl
-- SIMP okD_non okD_bl okD_int okD_str okD_lst okD_tup okD_dic
theorem ofStr_ne {a b : Str} (h : decide (a = b) = false) : ¬ a = b := of_decide_eq_false h
theorem signs_len : (Str.ofString "abcdefghijklmnopqrstuvwxyz0123456789").cps.toList.length = 36 := by decide +kernel
def signAt (c : Int) : Nat := (signsL[(c % 36).toNat]?).getD 0
theorem signAt_mem (c : Int) : signAt c ∈ signsL := by
  have h1 := Int.emod_nonneg c (show (36 : Int) ≠ 0 by decide)
  have h2 := Int.emod_lt_of_pos c (show (0 : Int) < 36 by decide)
  have hl : (c % 36).toNat < signsL.length := by
    have : signsL.length = 36 := signs_len
    omega
  unfold signAt
  rw [List.getElem?_eq_getElem hl]
  exact List.getElem_mem hl
theorem nth_sign (c : Int) : nth signsL (c % 36) = some (signAt c) := by
  have h1 := Int.emod_nonneg c (show (36 : Int) ≠ 0 by decide)
  have h2 := Int.emod_lt_of_pos c (show (0 : Int) < 36 by decide)
  have hl : (c % 36).toNat < signsL.length := by
    have : signsL.length = 36 := signs_len
    omega
  rw [nth_toNat _ h1]
  unfold signAt
  rw [List.getElem?_eq_getElem hl]
  rfl
/-! one in the line: a name, whether that one wishes to read, how often passed -/
structure Wt where
  name : Str
  rd : Bool
  n : Int
def wishS (b : Bool) : Str := cond b (Str.ofString "read") (Str.ofString "write")
theorem wishS_t : wishS true = Str.ofString "read" := by unfold wishS; rw [cond_true]
theorem wishS_f : wishS false = Str.ofString "write" := by unfold wishS; rw [cond_false]
theorem wishS_read (b : Bool) : decide (wishS b = Str.ofString "read") = b := by cases b <;> decide +kernel
theorem wishS_write (b : Bool) : decide (wishS b = Str.ofString "write") = !b := by cases b <;> decide +kernel
def eW (w : Wt) : D := .tup [.str w.name, .str (wishS w.rd), .int w.n]
def eLine (l : List Wt) : List D := l.map eW
def optI : Option Nat → D
  | none => .non
  | some p => .int (p : Int)
/-- what is to be read is the list ds, whether it may change or not -/
def Vw (d : D) (ds : List D) (M : Mem) : Prop := d = .lst ds ∨ ∃ a, d = .obj a ∧ M a = some (.lst ds)
theorem Vw.lst (ds : List D) (M : Mem) : Vw (.lst ds) ds M := .inl rfl
theorem Vw.obj {a : Addr} {ds : List D} {M : Mem} (h : M a = some (.lst ds)) : Vw (.obj a) ds M := .inr ⟨a, rfl, h⟩
theorem Vw.res {d : D} {ds : List D} {M : Mem} (h : Vw d ds M) : res M d = .lst ds := by
  rcases h with rfl | ⟨a, rfl, h⟩
  · rfl
  · exact res_obj h
theorem Vw.sub {d : D} {ds : List D} {M M' : Mem} (h : Vw d ds M) (s : M.Sub M') : Vw d ds M' := by
  rcases h with rfl | ⟨a, rfl, h⟩
  · exact .inl rfl
  · exact .inr ⟨a, rfl, s a _ h⟩
theorem Vw.enum {d : D} {ds : List D} {M : Mem} (h : Vw d ds M) {F : List D → (Mem → Prop) → Prop} (k : ∀ P : Mem → Prop, P M → F (enumD 0 ds) P) : enumOf [d] M F := by
  rcases h with rfl | ⟨a, rfl, h⟩
  · exact k _ trivial
  · rw [enumOf_obj, h]
    exact k _ h
theorem Vw.eqS_lst {d : D} {ds es : List D} {M : Mem} (h : Vw d ds M) : eqS d (.lst es) = none := by
  rcases h with rfl | ⟨a, rfl, h⟩ <;> rfl
theorem nth_eLine {l : List Wt} {i : Int} (h0 : 0 ≤ i) {w : Wt} (h : l[i.toNat]? = some w) : nth (eLine l) i = some (eW w) := by
  rw [nth_toNat _ h0]
  unfold eLine
  rw [List.getElem?_map, h]
  rfl
/-! who begins -/
def canB (s r : Int) (w rd : Bool) : Bool := cond rd (!w && decide (r < s)) (!w && decide (r = 0))
def firstReader (l : List Wt) : Option Nat := l.findIdx? (·.rd)
def nextPlace (l : List Wt) (s p r : Int) (w : Bool) : Option Nat :=
  match l with
  | [] => none
  | x :: _ =>
    if canB s r w x.rd = true then some 0
    else if x.rd = true ∨ r = 0 then none
    else match firstReader l with
      | none => none
      | some k => if canB s r w true = false then none else if (l.take k).any (fun o => decide (p ≤ o.n)) = true then none else some k
/-! ranges, equal things -/
theorem rangeD_len (n : Nat) : (rangeD 0 n).length = n := by unfold rangeD; rw [List.length_map, List.length_range]
theorem rangeD_get {n k : Nat} {x : D} (h : (rangeD 0 n)[k]? = some x) : k < n ∧ x = .int (k : Int) := by
  unfold rangeD at h
  rw [List.getElem?_map] at h
  by_cases hk : k < n
  · rw [List.getElem?_range hk] at h
    exact ⟨hk, by simpa using h.symm⟩
  · rw [List.getElem?_eq_none (by rw [List.length_range]; omega)] at h
    cases h
theorem eqv_str (a b : Str) : D.eqv (.str a) (.str b) = decide (a = b) := by
  show (a == b) = _
  by_cases h : a = b
  · subst h; rw [beq_self_eq_true, decide_eq_true rfl]
  · rw [beq_eq_false_iff_ne.mpr h, decide_eq_false h]
theorem eqv_int (a b : Int) : D.eqv (.int a) (.int b) = decide (a = b) := by
  show (a == b) = _
  by_cases h : a = b
  · subst h; rw [beq_self_eq_true, decide_eq_true rfl]
  · rw [beq_eq_false_iff_ne.mpr h, decide_eq_false h]
theorem eqv_lst_cons (x y : D) (xs ys : List D) : D.eqv (.lst (x :: xs)) (.lst (y :: ys)) = (D.eqv x y && D.eqv (.lst xs) (.lst ys)) := rfl
theorem eqv_lst_nil : D.eqv (.lst []) (.lst []) = true := rfl
theorem eqv_lst_nc (y : D) (ys : List D) : D.eqv (.lst []) (.lst (y :: ys)) = false := rfl
theorem eqv_lst_cn (y : D) (ys : List D) : D.eqv (.lst (y :: ys)) (.lst []) = false := rfl
theorem eqv_tup (xs ys : List D) : D.eqv (.tup xs) (.tup ys) = D.eqv (.lst xs) (.lst ys) := rfl
/-- equal, as the lists that they were made of -/
theorem eqv_map {α : Type} (g : α → D) (hg : ∀ a b, D.eqv (g a) (g b) = true ↔ a = b) : ∀ xs ys : List α, D.eqv (.lst (xs.map g)) (.lst (ys.map g)) = true ↔ xs = ys
  | [], [] => ⟨fun _ => rfl, fun _ => rfl⟩
  | x :: xs, [] => ⟨(fun h => nomatch (show false = true from h)), (fun h => nomatch h)⟩
  | [], y :: ys => ⟨(fun h => nomatch (show false = true from h)), (fun h => nomatch h)⟩
  | x :: xs, y :: ys => by
    rw [List.map_cons, List.map_cons, eqv_lst_cons, Bool.and_eq_true, hg x y, eqv_map g hg xs ys, List.cons.injEq]
theorem wishS_inj {a b : Bool} (h : wishS a = wishS b) : a = b := by
  have := wishS_read a
  rw [h, wishS_read b] at this
  exact this.symm
theorem eqv_eW (a b : Wt) : D.eqv (eW a) (eW b) = true ↔ a = b := by
  unfold eW
  rw [eqv_tup, eqv_lst_cons, eqv_lst_cons, eqv_lst_cons, eqv_str, eqv_str, eqv_int, eqv_lst_nil]
  cases a with | mk a1 a2 a3 => cases b with | mk b1 b2 b3 =>
  simp only [Bool.and_eq_true, decide_eq_true_eq, Wt.mk.injEq, and_true]
  exact ⟨fun ⟨h1, h2, h3⟩ => ⟨h1, wishS_inj h2, h3⟩, fun ⟨h1, h2, h3⟩ => ⟨h1, by rw [h2], h3⟩⟩
theorem eqv_eLine (a b : List Wt) : D.eqv (.lst (eLine a)) (.lst (eLine b)) = true ↔ a = b := eqv_map eW eqv_eW a b
theorem flat_eLine (l : List Wt) : flatN 9 (.lst (eLine l)) = true := by
  rw [flatN_lst]
  exact flat_map _ _ (fun w => by unfold eW; rw [flatN_tup, flatL_cons, flatL_cons, flatL_cons, flatN_str, flatN_str, flatN_int, flatL_nil]; rfl) l
theorem flat_names (l : List Str) : flatN 9 (.lst (l.map .str)) = true := by
  rw [flatN_lst]
  exact flat_map _ _ (fun w => flatN_str _ _) l
theorem len_eLine (l : List Wt) : (eLine l).length = l.length := List.length_map _
theorem nth_eL {l : List Wt} {k : Nat} {w : Wt} (h : l[k]? = some w) : nth (eLine l) (k : Int) = some (eW w) := nth_eLine (by omega) (by rw [Int.toNat_natCast]; exact h)
theorem nth_mod {α : Type} (xs : List α) (x : Int) (n : Nat) (h : xs.length = n) (h0 : 0 < n) : ∃ d ∈ xs, nth xs (x % (n : Int)) = some d := by
  have h1 := Int.emod_nonneg x (show (n : Int) ≠ 0 by omega)
  have h2 := Int.emod_lt_of_pos x (show (0 : Int) < (n : Int) by omega)
  rw [nth_toNat _ h1]
  have : (x % (n : Int)).toNat < xs.length := by omega
  exact ⟨_, List.getElem_mem this, List.getElem?_eq_getElem this⟩
theorem nth_names {names : List Str} {k : Nat} (h : k < names.length) : ∃ z ∈ names, nth (names.map D.str) (k : Int) = some (.str z) := by
  rw [nth_nat, List.getElem?_map, List.getElem?_eq_getElem h]
  exact ⟨_, List.getElem_mem h, rfl⟩
theorem res_set_lst {M : Mem} {p : Addr} {ds : List D} : res (M.set p (.lst ds)) (.obj p) = .lst ds := res_obj Mem.set_same
-- SIMP res_set_lst Mem.set_same Mem.set_set
/-! names in lists of names -/
theorem inD_names (z : Str) (l : List Str) : inD (.str z) (l.map .str) = decide (z ∈ l) := by
  unfold inD
  induction l with
  | nil => rfl
  | cons y l ih =>
    rw [List.map_cons, List.any_cons, ih]
    show ((y == z) || decide (z ∈ l)) = decide (z ∈ y :: l)
    by_cases h : y = z
    · subst h; simp
    · rw [beq_eq_false_iff_ne.mpr h, Bool.false_or]
      by_cases h2 : z ∈ l
      · rw [decide_eq_true h2, decide_eq_true (List.mem_cons_of_mem _ h2)]
      · rw [decide_eq_false h2, decide_eq_false (fun hh => by
          rcases List.mem_cons.mp hh with e | e
          · exact h e.symm
          · exact h2 e)]
theorem flatD_names (l : List Str) : (l.map D.str).all flatD = true := by
  rw [List.all_map]
  exact List.all_eq_true.mpr fun _ _ => rfl
/-- the first word of a tuple -/
def fst : D → D
  | .tup (d :: _) => d
  | _ => .non
theorem fst_eLine (l : List Wt) : (eLine l).map fst = (l.map (·.name)).map .str := by
  unfold eLine
  rw [List.map_map, List.map_map]
  rfl
theorem len_le_of_subset {α : Type} [DecidableEq α] : ∀ {A B : List α}, A.Nodup → (∀ x ∈ A, x ∈ B) → A.length ≤ B.length
  | [], _, _, _ => Nat.zero_le _
  | x :: A, B, hn, hs => by
    have hx := hs x (List.mem_cons_self ..)
    have hn := List.nodup_cons.mp hn
    have := len_le_of_subset (A := A) (B := B.erase x) hn.2 fun y hy => by
      refine (List.mem_erase_of_ne ?_).mpr (hs y (List.mem_cons_of_mem _ hy))
      rintro rfl
      exact hn.1 hy
    rw [List.length_erase_of_mem hx] at this
    have := List.length_pos_of_mem hx
    rw [List.length_cons]
    omega
theorem fresh_of {α : Type} [DecidableEq α] {A B : List α} (hn : A.Nodup) (h : B.length < A.length) : ∃ x ∈ A, x ∉ B := by
  refine Classical.byContradiction fun hh => ?_
  have := len_le_of_subset hn (B := B) fun x hx => Classical.byContradiction fun hb => hh ⟨x, hx, hb⟩
  omega
/-- all signs are signs of names -/
def good (z : Str) : Prop := ∀ c ∈ z.cps.toList, c ∈ signsL
theorem good_cut {z : Str} (h : good z) (lo hi : Option Int) : good (cutS z lo hi) := fun c hc => h c (List.mem_of_mem_drop (List.mem_of_mem_take (by simpa [cutS] using hc)))
theorem app_list (a b : Str) : (a ++ b).cps.toList = a.cps.toList ++ b.cps.toList := by
  show (a.cps ++ b.cps).toList = _
  exact Array.toList_append
theorem good_app {a b : Str} (h : good a) (k : good b) : good (a ++ b) := fun c hc => by
  rw [app_list] at hc
  rcases List.mem_append.mp hc with q | q
  · exact h c q
  · exact k c q
theorem good_one (c : Int) : good ⟨#[signAt c]⟩ := fun x hx => by
  have : x = signAt c := by simpa using hx
  subst this
  exact signAt_mem c
theorem str_len (z : Str) : z.cps.toList.length = z.length := by
  rw [Array.length_toList]; rfl
theorem nameOk_of {z : Str} (h1 : 1 ≤ z.length) (h2 : z.length ≤ 12) (h : good z) : nameOk z = true := by
  unfold nameOk
  rw [decide_eq_true h1, decide_eq_true h2]
  simp only [Bool.true_and, List.all_eq_true]
  exact fun c hc => decide_eq_true (h c hc)
theorem nameOk_good {z : Str} (h : nameOk z = true) : good z ∧ 1 ≤ z.length ∧ z.length ≤ 12 := by
  unfold nameOk at h
  simp only [Bool.and_eq_true, decide_eq_true_eq, List.all_eq_true] at h
  exact ⟨fun c hc => h.2 c hc, h.1.1, h.1.2⟩
theorem cut_hi_len (z : Str) {k : Int} (h : 0 ≤ k) : (cutS z none (some k)).length = min k.toNat z.length := by
  obtain ⟨n, rfl⟩ := Int.eq_ofNat_of_zero_le h
  show (((z.cps.toList.drop (HT.sIx z.length 0 none)).take (HT.sIx z.length z.length (some (n : Int)) - HT.sIx z.length 0 none)).toArray).size = _
  rw [HT.sIx_none, HT.sIx_nat, List.size_toArray, List.length_take, List.length_drop, str_len]
  simp only [Int.toNat_natCast]
  omega
theorem cut_lo_len (z : Str) {k : Int} (h : 0 ≤ k) : (cutS z (some k) none).length = z.length - min k.toNat z.length := by
  obtain ⟨n, rfl⟩ := Int.eq_ofNat_of_zero_le h
  show (((z.cps.toList.drop (HT.sIx z.length 0 (some (n : Int)))).take (HT.sIx z.length z.length none - HT.sIx z.length 0 (some (n : Int)))).toArray).size = _
  rw [HT.sIx_none, HT.sIx_nat, List.size_toArray, List.length_take, List.length_drop, str_len]
  simp only [Int.toNat_natCast]
  omega
theorem num_good {n : Nat} (h : n < 100) : good (Str.ofString (toString (n : Int))) ∧ 1 ≤ (Str.ofString (toString (n : Int))).length ∧ (Str.ofString (toString (n : Int))).length ≤ 2 := by
  have e : (Str.ofString (toString ((n : Nat) : Int))).cps.toList = TL.numL n := TL.tl_num n
  have hl : (Str.ofString (toString ((n : Nat) : Int))).length = (TL.numL n).length := by rw [← e, str_len]
  refine ⟨fun c hc => ?_, ?_, ?_⟩
  · rw [e] at hc
    have hd := TL.numL_digits n c hc
    have all : ∀ d : Nat, d < 58 → 48 ≤ d → d ∈ signsL := by decide +kernel
    exact all c (by omega) hd.1
  · rw [hl]
    have := TL.numL_ne n
    cases q : TL.numL n with
    | nil => exact absurd q this
    | cons _ _ => simp
  · rw [hl]
    exact TL.numL_len (k := 2) (by decide) (by omega)
/-- a comprehension over a range -/
theorem lc_rangeD {i : Nat} {te : DE} {δ : DS} {M : Mem} {P : Mem → Prop} {Q : QD} {n : Nat} (g : Nat → D)
    (h2 : ∀ k, k < n → ∀ M', M.Sub M' → ∀ Qd : QD, Qd (g k) M' → te (δ.set i (some (.int (k : Int)))) M' Qd fun _ _ _ => False)
    (h : Q (.lst ((List.range n).map g)) M) (hP : ∀ M', M.Sub M' → P M' := by exact fun _ _ => trivial) : ∀ D0, M D0 = none → lcL D0 i dYes te δ P (fun M2 => frz (.obj D0) M2 Q) (rangeD 0 n) [] (M.set D0 (.lst [])) := by
  refine lc_map (fun x => match x with | .int j => g j.toNat | _ => .non) (fun x hx M' hs Qd q => ?_) ?_ hP
  · unfold rangeD at hx
    obtain ⟨k, hk, rfl⟩ := List.mem_map.mp hx
    have hk := List.mem_range.mp hk
    have e : (0 : Int) + (k : Int) = (k : Int) := Int.zero_add _
    rw [e] at q ⊢
    exact h2 k hk M' hs Qd q
  · unfold rangeD
    rw [List.map_map]
    have : ((fun x => match x with | D.int j => g j.toNat | _ => .non) ∘ fun i : Nat => D.int (0 + (i : Int))) = g := by
      funext k
      show g ((0 : Int) + (k : Int)).toNat = g k
      congr 1
      omega
    rw [this]
    exact h
theorem Vw.eqS {d e : D} {ds es : List D} {M M' : Mem} (h : Vw d ds M) (k : Vw e es M') : DL.eqS d e = none := by
  rcases h with rfl | ⟨a, rfl, h⟩ <;> rcases k with rfl | ⟨b, rfl, k⟩ <;> rfl
theorem filter_no {α : Type} (xs : List α) : xs.filter (fun _ => false) = [] := by
  rw [List.filter_eq_nil_iff]
  intro _ _ h
  cases h
theorem Vw.items {d : D} {ds : List D} {M : Mem} (h : Vw d ds M) {F : List D → (Mem → Prop) → Prop} (k : ∀ P : Mem → Prop, (∀ M', M.Sub M' → P M') → F ds P) : itemsOf d M F := by
  rcases h with rfl | ⟨a, rfl, h⟩
  · exact k _ fun _ _ => trivial
  · rw [itemsOf_obj, h]
    exact k _ fun M' s => s a _ h
/-! rows of journals -/
inductive Rw where
  | came (z : Str) (rd : Bool)
  | begins (z : Str) (rd : Bool)
  | left (z : Str)
  | asked (z : Str)
  | eased (z : Str)
namespace Rw
def name : Rw → Str
  | came z _ => z
  | begins z _ => z
  | left z => z
  | asked z => z
  | eased z => z
def words : Rw → List Str
  | came z b => [Str.ofString "came", z, wishS b]
  | begins z b => [Str.ofString "begins", z, wishS b]
  | left z => [Str.ofString "left", z]
  | asked z => [Str.ofString "asked", z]
  | eased z => [Str.ofString "eased", z]
end Rw
def eR (r : Rw) : D := .tup (r.words.map .str)
def eRows (l : List Rw) : List D := l.map eR
theorem words_inj {a b : Rw} (h : a.words = b.words) : a = b := by
  cases a <;> cases b <;> simp only [Rw.words, List.cons.injEq, and_true, and_false, reduceCtorEq] at h
  all_goals first
    | exact absurd h.1 (by decide +kernel)
    | (obtain ⟨_, rfl, h⟩ := h; rw [wishS_inj h])
    | (obtain ⟨_, rfl⟩ := h; rfl)
theorem eqv_strs (a b : List Str) : D.eqv (.lst (a.map .str)) (.lst (b.map .str)) = true ↔ a = b := eqv_map .str (fun x y => by rw [eqv_str, decide_eq_true_iff]) a b
theorem eqv_eR (a b : Rw) : D.eqv (eR a) (eR b) = true ↔ a = b := by
  unfold eR
  rw [eqv_tup, eqv_strs]
  exact ⟨words_inj, fun h => by rw [h]⟩
theorem eqv_eRows (a b : List Rw) : D.eqv (.lst (eRows a)) (.lst (eRows b)) = true ↔ a = b := eqv_map eR eqv_eR a b
theorem flat_strs (n : Nat) (l : List Str) : flatL n (l.map .str) = true := flat_map _ _ (fun w => flatN_str _ _) l
theorem flat_eRows (l : List Rw) : flatN 9 (.lst (eRows l)) = true := by
  rw [flatN_lst]
  exact flat_map _ _ (fun r => by unfold eR; rw [flatN_tup]; exact flat_strs _ _) l
theorem len_eRows (l : List Rw) : (eRows l).length = l.length := List.length_map _
theorem eRows_app (a b : List Rw) : eRows (a ++ b) = eRows a ++ eRows b := List.map_append
/-! plain signs -/
def plain (z : Str) : Prop := ∀ c ∈ z.cps.toList, c < 256
theorem good_plain {z : Str} (h : good z) : plain z := fun c hc => by
  have all : ∀ d ∈ signsL, d < 256 := by decide +kernel
  exact all c (h c hc)
theorem plain_app {a b : Str} (h : plain a) (k : plain b) : plain (a ++ b) := fun c hc => by
  rw [app_list] at hc
  rcases List.mem_append.mp hc with q | q
  · exact h c q
  · exact k c q
theorem strOk_plain {z : Str} (h : plain z) (k : z.length ≤ sizeLine) : strOk z = true := strOk_iff.mpr ⟨fun c hc => by have := h c hc; omega, k⟩
theorem mem_joinL {S : List Nat} {c : Nat} : ∀ {ps : List (List Nat)}, c ∈ TL.joinL S ps → c ∈ S ∨ ∃ p ∈ ps, c ∈ p
  | [], h => by cases h
  | [p], h => .inr ⟨p, List.mem_singleton.mpr rfl, h⟩
  | p :: q :: r, h => by
    have h : c ∈ p ++ (S ++ TL.joinL S (q :: r)) := h
    rcases List.mem_append.mp h with h | h
    · exact .inr ⟨p, List.mem_cons_self .., h⟩
    · rcases List.mem_append.mp h with h | h
      · exact .inl h
      · rcases mem_joinL h with h | ⟨x, hx, h⟩
        · exact .inl h
        · exact .inr ⟨x, List.mem_cons_of_mem _ hx, h⟩
theorem tl_joinT (y : Str) (parts : List Str) : (Txt.join y parts).cps.toList = TL.joinL y.cps.toList (parts.map fun z => z.cps.toList) := by
  rw [TL.join_eq]
  exact TL.tl_join y parts
theorem plain_join {y : Str} {ps : List Str} (hy : plain y) (h : ∀ p ∈ ps, plain p) : plain (Txt.join y ps) := fun c hc => by
  rw [tl_joinT] at hc
  rcases mem_joinL hc with q | ⟨p, hp, q⟩
  · exact hy c q
  · obtain ⟨z, hz, rfl⟩ := List.mem_map.mp hp
    exact h z hz c q
theorem join_len (y : Str) (ps : List Str) : (Txt.join y ps).length ≤ (ps.map (·.length)).sum + ps.length * y.length := by
  rw [TL.join_eq]
  exact StrLaws.join_length_le y ps
/-! the texts of rows -/
def sp : Str := Str.ofString " "
def nl : Str := Str.ofString "\n"
theorem sp_tl : TL.tl sp = [32] := by decide +kernel
theorem nl_tl : TL.tl nl = [10] := by decide +kernel
theorem sp_len : sp.length = 1 := by decide +kernel
theorem nl_len : nl.length = 1 := by decide +kernel
theorem plain_lit : plain sp ∧ plain nl ∧ plain (Str.ofString "came") ∧ plain (Str.ofString "begins") ∧ plain (Str.ofString "left") ∧ plain (Str.ofString "asked") ∧ plain (Str.ofString "eased") ∧ plain (wishS true) ∧ plain (wishS false) ∧ plain (Str.ofString "") := by
  unfold plain
  decide +kernel
/-- no blank, no line end, not long, plain -/
def wordy (z : Str) : Prop := plain z ∧ 32 ∉ z.cps.toList ∧ 10 ∉ z.cps.toList ∧ z.length ≤ 12
theorem wordy_lit : wordy (Str.ofString "came") ∧ wordy (Str.ofString "begins") ∧ wordy (Str.ofString "left") ∧ wordy (Str.ofString "asked") ∧ wordy (Str.ofString "eased") ∧ wordy (wishS true) ∧ wordy (wishS false) := by
  unfold wordy plain
  decide +kernel
theorem wordy_name {z : Str} (h : nameOk z = true) : wordy z := by
  obtain ⟨h1, h2, h3⟩ := nameOk_good h
  have n1 : (32 : Nat) ∉ signsL := by decide +kernel
  have n2 : (10 : Nat) ∉ signsL := by decide +kernel
  exact ⟨good_plain h1, fun q => n1 (h1 _ q), fun q => n2 (h1 _ q), h3⟩
theorem wordy_words {r : Rw} (h : nameOk r.name = true) : (∀ z ∈ r.words, wordy z) ∧ r.words ≠ [] ∧ r.words.length ≤ 3 := by
  have hz := wordy_name h
  obtain ⟨l1, l2, l3, l4, l5, l6, l7⟩ := wordy_lit
  have hw : ∀ b, wordy (wishS b) := fun b => match b with | true => l6 | false => l7
  cases r <;> refine ⟨fun z hm => ?_, by simp [Rw.words], by simp [Rw.words]⟩ <;> simp only [Rw.words, List.mem_cons, List.not_mem_nil, or_false] at hm
  · rcases hm with rfl | rfl | rfl
    · exact l1
    · exact hz
    · exact hw _
  · rcases hm with rfl | rfl | rfl
    · exact l2
    · exact hz
    · exact hw _
  · rcases hm with rfl | rfl
    · exact l3
    · exact hz
  · rcases hm with rfl | rfl
    · exact l4
    · exact hz
  · rcases hm with rfl | rfl
    · exact l5
    · exact hz
def bodyOf (r : Rw) : Str := Txt.join sp r.words
def lineOf (r : Rw) : Str := bodyOf r ++ nl
def textOf (l : List Rw) : Str := Txt.join (Str.ofString "") (l.map lineOf)
theorem sum_le {l : List Str} {k : Nat} (h : ∀ z ∈ l, z.length ≤ k) : (l.map (·.length)).sum ≤ l.length * k := by
  induction l with
  | nil => simp
  | cons z l ih =>
    rw [List.map_cons, List.sum_cons, List.length_cons, Nat.succ_mul]
    have := h z (List.mem_cons_self ..)
    have := ih fun z hz => h z (List.mem_cons_of_mem _ hz)
    omega
theorem words_size {r : Rw} (h : nameOk r.name = true) : (r.words.map (·.length)).sum + r.words.length * sp.length ≤ 39 := by
  obtain ⟨h1, _, h3⟩ := wordy_words h
  have := sum_le (k := 12) fun z hz => (h1 z hz).2.2.2
  rw [sp_len]
  omega
theorem body_len {r : Rw} (h : nameOk r.name = true) : (bodyOf r).length ≤ 39 := Nat.le_trans (join_len _ _) (words_size h)
theorem body_plain {r : Rw} (h : nameOk r.name = true) : plain (bodyOf r) := plain_join plain_lit.1 fun z hz => ((wordy_words h).1 z hz).1
theorem line_len {r : Rw} (h : nameOk r.name = true) : (lineOf r).length ≤ 40 := by
  unfold lineOf
  rw [len_append, nl_len]
  have := body_len h
  omega
theorem line_plain {r : Rw} (h : nameOk r.name = true) : plain (lineOf r) := plain_app (body_plain h) plain_lit.2.1
theorem lines_size {l : List Rw} (h : ∀ r ∈ l, nameOk r.name = true) : ((l.map lineOf).map (·.length)).sum + (l.map lineOf).length * (Str.ofString "").length ≤ l.length * 40 := by
  have e : (Str.ofString "").length = 0 := by decide +kernel
  rw [e]
  have := sum_le (l := l.map lineOf) (k := 40) fun z hz => by
    obtain ⟨r, hr, rfl⟩ := List.mem_map.mp hz
    exact line_len (h r hr)
  rw [List.length_map] at this
  omega
theorem text_len {l : List Rw} (h : ∀ r ∈ l, nameOk r.name = true) : (textOf l).length ≤ l.length * 40 := Nat.le_trans (join_len _ _) (lines_size h)
theorem text_plain {l : List Rw} (h : ∀ r ∈ l, nameOk r.name = true) : plain (textOf l) := plain_join plain_lit.2.2.2.2.2.2.2.2.2 fun z hz => by
  obtain ⟨r, hr, rfl⟩ := List.mem_map.mp hz
  exact line_plain (h r hr)
theorem joinL_nil : ∀ ps : List (List Nat), TL.joinL [] ps = ps.flatten
  | [] => rfl
  | [p] => by simp [TL.joinL]
  | p :: q :: r => by
    show p ++ ([] ++ TL.joinL [] (q :: r)) = _
    rw [List.nil_append, joinL_nil (q :: r)]
    rfl
theorem text_tl (l : List Rw) : (textOf l).cps.toList = (l.map fun r => (lineOf r).cps.toList).flatten := by
  unfold textOf
  rw [tl_joinT, List.map_map]
  have : (Str.ofString "").cps.toList = [] := by decide +kernel
  rw [this, joinL_nil]
  rfl
theorem text_nil : textOf [] = Str.ofString "" := by
  refine TL.ext_tl ?_
  show (textOf []).cps.toList = _
  rw [text_tl]
  decide +kernel
theorem text_app (l : List Rw) (r : Rw) : textOf (l ++ [r]) = textOf l ++ lineOf r := by
  refine TL.ext_tl ?_
  show (textOf (l ++ [r])).cps.toList = (textOf l ++ lineOf r).cps.toList
  rw [text_tl, app_list, text_tl, List.map_append, List.flatten_append]
  simp
theorem split_body {r : Rw} (h : nameOk r.name = true) : Txt.split (bodyOf r) sp = r.words :=
  TL.split_join (s := 32) (S := []) sp_tl (by decide +kernel) (wordy_words h).2.1 fun p hp => ((wordy_words h).1 p hp).2.1
theorem joinL_ends : ∀ ps : List (List Nat), TL.joinL [10] (ps ++ [[]]) = (ps.map fun p => p ++ [10]).flatten
  | [] => rfl
  | [p] => by simp [TL.joinL]
  | p :: q :: r => by
    show p ++ ([10] ++ TL.joinL [10] (q :: (r ++ [[]]))) = _
    rw [show q :: (r ++ [[]]) = (q :: r) ++ [[]] from rfl, joinL_ends (q :: r), ← List.append_assoc]
    rfl
theorem body_no_nl {r : Rw} (h : nameOk r.name = true) : 10 ∉ (bodyOf r).cps.toList := fun hm => by
  unfold bodyOf at hm
  rw [tl_joinT] at hm
  rcases mem_joinL hm with q | ⟨p, hp, q⟩
  · have : (10 : Nat) ∉ sp.cps.toList := by decide +kernel
    exact this q
  · obtain ⟨z, hz, rfl⟩ := List.mem_map.mp hp
    exact ((wordy_words h).1 z hz).2.2.1 q
theorem split_text {l : List Rw} (h : ∀ r ∈ l, nameOk r.name = true) : Txt.split (textOf l) nl = l.map bodyOf ++ [Str.ofString ""] := by
  have e : textOf l = Txt.join nl (l.map bodyOf ++ [Str.ofString ""]) := by
    refine TL.ext_tl ?_
    show (textOf l).cps.toList = _
    rw [text_tl]
    show _ = (Txt.join nl _).cps.toList
    rw [tl_joinT, List.map_append, List.map_map]
    have e1 : nl.cps.toList = [10] := nl_tl
    have e2 : ([Str.ofString ""].map fun z => z.cps.toList) = [[]] := by decide +kernel
    rw [e1, e2, joinL_ends, List.map_map]
    congr 1
    refine List.map_congr_left fun r hr => ?_
    show (bodyOf r ++ nl).cps.toList = (bodyOf r).cps.toList ++ [10]
    rw [app_list, e1]
  rw [e]
  refine TL.split_join (s := 10) (S := []) nl_tl (by decide +kernel) (by simp) fun p hp => ?_
  rcases List.mem_append.mp hp with q | q
  · obtain ⟨r, hr, rfl⟩ := List.mem_map.mp q
    exact body_no_nl (h r hr)
  · rw [List.mem_singleton.mp q]
    decide +kernel
theorem dcut_take {α : Type} (xs : List α) (k : Nat) : dcut xs none (some (k : Int)) = xs.take k := by
  unfold dcut
  rw [HT.sIx_none, HT.sIx_nat, List.drop_zero, Nat.sub_zero]
  by_cases h : k ≤ xs.length
  · rw [Nat.min_eq_left h]
  · rw [Nat.min_eq_right (by omega), List.take_of_length_le (Nat.le_refl _), List.take_of_length_le (by omega)]
theorem dcut_drop {α : Type} (xs : List α) (k : Nat) : dcut xs (some ((k : Int) + 1)) none = xs.drop (k + 1) := by
  unfold dcut
  have e : ((k : Int) + 1) = ((k + 1 : Nat) : Int) := by omega
  rw [HT.sIx_none, e, HT.sIx_nat]
  by_cases h : k + 1 ≤ xs.length
  · rw [Nat.min_eq_left h, List.take_of_length_le (by rw [List.length_drop]; omega)]
  · rw [Nat.min_eq_right (by omega), List.drop_of_length_le (Nat.le_refl _), List.drop_of_length_le (by omega), List.take_nil]
theorem take_eLine (l : List Wt) (k : Nat) : (eLine l).take k = eLine (l.take k) := List.map_take.symm
theorem drop_eLine (l : List Wt) (k : Nat) : (eLine l).drop k = eLine (l.drop k) := List.map_drop.symm
theorem eLine_app (a b : List Wt) : eLine (a ++ b) = eLine a ++ eLine b := List.map_append
theorem set_none {M : Mem} {a p : Addr} {o : MO} (h : M.set a o p = none) : M p = none := by
  by_cases e : p = a
  · subst e
    rw [Mem.set_same] at h
    cases h
  · rw [Mem.set_ne e] at h
    exact h

local macro_rules | `(tactic| walk_at "dl") => `(tactic| try simp -implicitDefEqProofs only [DL.dNext, DL.dSeq, DL.dExpr, DL.dRet, DL.dIfS, DL.dSet, DL.dCont, DL.dRaise, DL.dFor, DL.dgName, DL.dgPair, DL.dTry, DL.dFn, DL.dMth, DL.dMk, DL.dFld, DL.dFldS, DL.dPut, DL.dVar, DL.slot, DL.dC, DL.dOp, DL.dUn, DL.oSub, DL.oMul, DL.oDiv, DL.oMod, DL.oPow, DL.oLt, DL.oLe, DL.oGt, DL.oGe, DL.oEq, DL.oNe, DL.oIn, DL.oNotIn, DL.dB, DL.dIsN, DL.dChain, DL.dAnd, DL.dOr, DL.dNot, DL.dAndV, DL.dOrV, DL.dNotV, DL.dIf, DL.dNil, DL.dCons, DL.few, DL.dLst, DL.dTup, DL.dLstM, DL.dFrz, DL.dPairs, DL.dDisp, DL.dDic0, DL.dSl, DL.dNoPart, DL.dCall, DL.dMet0L, DL.dMet, DL.dItems, DL.dRange1, DL.dEnum, DL.dLcM, DL.dwipe, DL.startD, DL.dNever, DL.el_some, DL.elL_lst, DL.elD_dic, DL.elI_ins, DL.res_non, DL.res_bl, DL.res_int, DL.res_str, DL.res_lst, DL.res_tupE, DL.res_dic, DL.res_scr, DL.res_ty, DL.oAdd_eq, DL.addR_int, DL.addR_str, DL.addR_lst, DL.addR_tup, DL.oAddM_eq, DL.addMR_lst, DL.oInt_eq, DL.intR_int, DL.oInt0_eq, DL.int0R_int, DL.oNeg_eq, DL.negR_int, DL.oEqN_eq, DL.eqR_some, DL.eqR_none, DL.eqS_non_non, DL.eqS_non_int, DL.eqS_non_bl, DL.eqS_non_str, DL.eqS_non_lst, DL.eqS_non_tup, DL.eqS_int_non, DL.eqS_int_int, DL.eqS_int_bl, DL.eqS_int_str, DL.eqS_int_lst, DL.eqS_int_tup, DL.eqS_bl_non, DL.eqS_bl_int, DL.eqS_bl_bl, DL.eqS_bl_str, DL.eqS_bl_lst, DL.eqS_bl_tup, DL.eqS_str_non, DL.eqS_str_int, DL.eqS_str_bl, DL.eqS_str_str, DL.eqS_str_lst, DL.eqS_str_tup, DL.eqS_lst_non, DL.eqS_lst_int, DL.eqS_lst_bl, DL.eqS_lst_str, DL.eqS_lst_lst, DL.eqS_lst_tup, DL.eqS_tup_non, DL.eqS_tup_int, DL.eqS_tup_bl, DL.eqS_tup_str, DL.eqS_tup_lst, DL.eqS_tup_tup, DL.eqS_obj_non, DL.eqS_non_obj, DL.eqS_obj_int, DL.eqS_int_obj, DL.eqS_obj_bl, DL.eqS_bl_obj, DL.eqS_obj_str, DL.eqS_str_obj, DL.eqS_obj_lst, DL.eqS_lst_obj, DL.eqS_obj_tup, DL.eqS_tup_obj, DL.eqS_obj_obj, DL.oInN_eq, DL.inR_lst, DL.inR_tup, DL.inR_str, DL.flatD_non, DL.flatD_bl, DL.flatD_int, DL.flatD_str, DL.asB_bl, DL.isN_non, DL.isN_bl, DL.isN_int, DL.isN_str, DL.isN_lst, DL.isN_tup, DL.isN_dic, DL.isN_scr, DL.isN_ty, DL.isN_obj, DL.frz_non, DL.frz_bl, DL.frz_int, DL.frz_str, DL.frz_lst, DL.frz_tup, DL.frz_dic, DL.frz_scr, DL.frz_ty, DL.oIx_eq, DL.ixR_lst, DL.ixR_tup, DL.ixR_scr, DL.ixR_str, DL.ixR_dic, DL.nth_0, DL.nth_1, DL.nth_2, DL.nth_3, DL.oSl_eq, DL.slR_lst, DL.slR_tup, DL.slR_str, DL.dPart_eq, DL.partR_int, DL.on1_cons, DL.on2_cons, DL.lenD_lst, DL.lenD_tup, DL.lenD_scr, DL.lenD_str, DL.intD_int, DL.intD_bl, DL.strD_int, DL.int2_int, DL.listM_lst, DL.listF_lst, DL.listM_tup, DL.listF_tup, DL.dictM_dic, DL.isiD_ty, DL.oAppend_obj, DL.oInsert_obj, DL.oPop_obj, DL.oPopAt_obj, DL.isLst_eq, DL.isLstR_lst, DL.isStr_str, DL.oSplit_str, DL.oJoin_str, DL.itemsOf_lst, DL.itemsOf_tup, DL.itemsOf_str, DL.rng1_int, DL.enumOf_lst, DL.two_tup, DL.insIs_obj, DL.getFld_obj, DL.setFld_obj, DL.putDic_obj, DL.isB_str_non, DL.isB_str_bl, DL.isB_str_int, DL.isB_str_str, DL.isB_str_lst, DL.isB_str_tup, DL.isB_str_dic, DL.isB_int_non, DL.isB_int_bl, DL.isB_int_int, DL.isB_int_str, DL.isB_int_lst, DL.isB_int_tup, DL.isB_int_dic, DL.isB_bool_non, DL.isB_bool_bl, DL.isB_bool_int, DL.isB_bool_str, DL.isB_bool_lst, DL.isB_bool_tup, DL.isB_bool_dic, DL.isB_list_non, DL.isB_list_bl, DL.isB_list_int, DL.isB_list_str, DL.isB_list_lst, DL.isB_list_tup, DL.isB_list_dic, DL.isB_tuple_non, DL.isB_tuple_bl, DL.isB_tuple_int, DL.isB_tuple_str, DL.isB_tuple_lst, DL.isB_tuple_tup, DL.isB_tuple_dic, Bool.cond_true, Bool.cond_false, L2.CDiv, Int.reduceLT, Int.reduceLE, true_and, and_true, cond_true, cond_false, List.map_cons, List.map_nil, List.set_cons_zero, List.set_cons_succ, List.set_nil, DL.cpow_109, DL.pow_109, DL.frz_set_lst, DL.frz_set_dic, Bool.not_true, Bool.not_false, DL.itemsOf_obj, DL.enumOf_obj, DL.all_still, okD_non, okD_bl, okD_int, okD_str, okD_lst, okD_tup, okD_dic, res_set_lst, Mem.set_same, Mem.set_set])
/-! lines: plain, no line end, not long -/
def lineOk (n : Nat) (z : Str) : Prop := plain z ∧ 10 ∉ z.cps.toList ∧ z.length ≤ n
def lineB (n : Nat) (z : Str) : Bool := z.cps.toList.all (fun c => decide (c < 256) && !decide (c = 10)) && decide (z.length ≤ n)
theorem lineOk_of {n : Nat} {z : Str} (h : lineB n z = true) : lineOk n z := by
  unfold lineB at h
  rw [Bool.and_eq_true, List.all_eq_true, decide_eq_true_eq] at h
  refine ⟨fun c hc => ?_, fun hc => ?_, h.2⟩
  · have := h.1 c hc
    rw [Bool.and_eq_true] at this
    exact of_decide_eq_true this.1
  · have := h.1 10 hc
    simp at this
theorem lineOk_up {m n : Nat} {z : Str} (h : lineOk m z) (k : m ≤ n) : lineOk n z := ⟨h.1, h.2.1, Nat.le_trans h.2.2 k⟩
theorem lineOk_app {m n : Nat} {a b : Str} (h : lineOk m a) (k : lineOk n b) : lineOk (m + n) (a ++ b) := by
  refine ⟨plain_app h.1 k.1, fun hc => ?_, by rw [len_append]; exact Nat.add_le_add h.2.2 k.2.2⟩
  rw [app_list] at hc
  rcases List.mem_append.mp hc with q | q
  · exact h.2.1 q
  · exact k.2.1 q
theorem mem_cutS {z : Str} {lo hi : Option Int} {c : Nat} (hc : c ∈ (cutS z lo hi).cps.toList) : c ∈ z.cps.toList := List.mem_of_mem_drop (List.mem_of_mem_take (by simpa [cutS] using hc))
theorem lineOk_hi {n : Nat} {z : Str} (h : lineOk n z) {k : Int} (h0 : 0 ≤ k) : lineOk n (cutS z none (some k)) := by
  refine ⟨fun c hc => h.1 c (mem_cutS hc), fun hc => h.2.1 (mem_cutS hc), ?_⟩
  have := cut_hi_len z h0
  have := h.2.2
  omega
theorem lineOk_lo {n : Nat} {z : Str} (h : lineOk n z) {k : Int} (h0 : 0 ≤ k) : lineOk n (cutS z (some k) none) := by
  refine ⟨fun c hc => h.1 c (mem_cutS hc), fun hc => h.2.1 (mem_cutS hc), ?_⟩
  have := cut_lo_len z h0
  have := h.2.2
  omega
theorem lineOk_name {z : Str} (h : nameOk z = true) : lineOk 12 z := by
  have w := wordy_name h
  exact ⟨w.1, w.2.2.1, w.2.2.2⟩
theorem lineOk_wish (b : Bool) : lineOk 5 (wishS b) := by cases b <;> exact lineOk_of (by decide +kernel)
theorem lineOk_sp : lineOk 1 sp := lineOk_of (by decide +kernel)
def rowWords : List Str := [Str.ofString "came", Str.ofString "begins", Str.ofString "left", Str.ofString "asked", Str.ofString "eased"]
theorem lineOk_word {z : Str} (h : z ∈ rowWords) : lineOk 6 z := by
  have all : ∀ z ∈ rowWords, lineB 6 z = true := by decide +kernel
  exact lineOk_of (all z h)
theorem dcut_hi {α : Type} (xs : List α) {k : Int} (h : 0 ≤ k) : dcut xs none (some k) = xs.take k.toNat := by
  obtain ⟨n, rfl⟩ := Int.eq_ofNat_of_zero_le h
  exact dcut_take xs n
theorem dcut_lo {α : Type} (xs : List α) {k : Int} (h : 0 ≤ k) : dcut xs (some k) none = xs.drop k.toNat := by
  obtain ⟨n, rfl⟩ := Int.eq_ofNat_of_zero_le h
  show dcut xs (some (n : Int)) none = xs.drop n
  unfold dcut
  rw [HT.sIx_none, HT.sIx_nat]
  by_cases h : n ≤ xs.length
  · rw [Nat.min_eq_left h, List.take_of_length_le (by rw [List.length_drop]; omega)]
  · rw [Nat.min_eq_right (by omega), List.drop_of_length_le (Nat.le_refl _), List.drop_of_length_le (by omega), List.take_nil]
theorem nth_last {α : Type} (xs : List α) (x : α) : nth (xs ++ [x]) (-1) = some x := by
  show (if 0 + 1 ≤ (xs ++ [x]).length then (xs ++ [x])[(xs ++ [x]).length - (0 + 1)]? else none) = _
  rw [List.length_append, List.length_singleton, if_pos (by omega), show xs.length + 1 - (0 + 1) = xs.length by omega]
  simp
theorem dcut_init {α : Type} (xs : List α) (x : α) : dcut (xs ++ [x]) none (some (-1)) = xs := by
  unfold dcut
  rw [HT.sIx_none, List.drop_zero, Nat.sub_zero]
  have : HT.sIx (xs ++ [x]).length (xs ++ [x]).length (some (-1)) = xs.length := by
    rw [List.length_append, List.length_singleton]
    unfold HT.sIx
    simp
    omega
  rw [this]
  simp
/-! the whole text -/
def textL (l : List Str) : Str := Txt.join (Str.ofString "") (l.map fun z => z ++ nl)
theorem textL_tl (l : List Str) : (textL l).cps.toList = TL.joinL [10] (l.map (fun z => z.cps.toList) ++ [[]]) := by
  unfold textL
  rw [tl_joinT, List.map_map]
  have e0 : (Str.ofString "").cps.toList = [] := by decide +kernel
  have e1 : nl.cps.toList = [10] := nl_tl
  rw [e0, joinL_nil, joinL_ends, List.map_map]
  congr 1
  refine List.map_congr_left fun z _ => ?_
  show (z ++ nl).cps.toList = z.cps.toList ++ [10]
  rw [app_list, e1]
theorem split_lines {l : List Str} (h : ∀ z ∈ l, 10 ∉ z.cps.toList) : Txt.split (textL l) nl = l ++ [Str.ofString ""] := by
  have e : textL l = Txt.join nl (l ++ [Str.ofString ""]) := by
    refine TL.ext_tl ?_
    show (textL l).cps.toList = (Txt.join nl _).cps.toList
    rw [textL_tl, tl_joinT, List.map_append]
    have e1 : nl.cps.toList = [10] := nl_tl
    have e2 : ([Str.ofString ""].map fun z => z.cps.toList) = [[]] := by decide +kernel
    rw [e1, e2]
  rw [e]
  refine TL.split_join (s := 10) (S := []) nl_tl (by decide +kernel) (by simp) fun p hp => ?_
  rcases List.mem_append.mp hp with q | q
  · exact h p q
  · rw [List.mem_singleton.mp q]
    decide +kernel
theorem joinL_snoc : ∀ {ps : List (List Nat)}, ps ≠ [] → TL.joinL [10] (ps ++ [[]]) = TL.joinL [10] ps ++ [10]
  | [], h => absurd rfl h
  | [p], _ => by simp [TL.joinL]
  | p :: q :: r, _ => by
    have ih := joinL_snoc (ps := q :: r) (by simp)
    show p ++ ([10] ++ TL.joinL [10] (q :: (r ++ [[]]))) = p ++ ([10] ++ TL.joinL [10] (q :: r)) ++ [10]
    rw [show q :: (r ++ [[]]) = (q :: r) ++ [[]] from rfl, ih]
    simp
theorem cut_last {l : List Str} (hl : l ≠ []) : cutS (textL l) none (some (-1)) = Txt.join nl l := by
  have e1 : nl.cps.toList = [10] := nl_tl
  have e := textL_tl l
  rw [joinL_snoc (by simpa using hl)] at e
  refine TL.ext_tl ?_
  show (cutS (textL l) none (some (-1))).cps.toList = (Txt.join nl l).cps.toList
  rw [tl_joinT, e1]
  generalize TL.joinL [10] (l.map fun z => z.cps.toList) = js at e ⊢
  have hn : (textL l).length = js.length + 1 := by
    rw [← str_len, e, List.length_append]
    rfl
  show (((textL l).cps.toList.drop (HT.sIx (textL l).length 0 none)).take (HT.sIx (textL l).length (textL l).length (some (-1)) - HT.sIx (textL l).length 0 none)).toArray.toList = _
  rw [HT.sIx_none, hn]
  have e3 : HT.sIx (js.length + 1) (js.length + 1) (some (-1)) = js.length := by
    unfold HT.sIx
    simp
    omega
  rw [e3, e, List.drop_zero, Nat.sub_zero]
  simp
theorem split_cut {l : List Str} (hl : l ≠ []) (h : ∀ z ∈ l, 10 ∉ z.cps.toList) : Txt.split (cutS (textL l) none (some (-1))) nl = l := by
  rw [cut_last hl]
  exact TL.split_join (s := 10) (S := []) nl_tl (by decide +kernel) hl h
theorem textL_len {l : List Str} {n : Nat} (h : ∀ z ∈ l, lineOk n z) : (textL l).length ≤ l.length * (n + 1) := by
  refine Nat.le_trans (join_len _ _) ?_
  have e : (Str.ofString "").length = 0 := by decide +kernel
  rw [e]
  have := sum_le (l := l.map fun z => z ++ nl) (k := n + 1) fun z hz => by
    obtain ⟨r, hr, rfl⟩ := List.mem_map.mp hz
    rw [len_append, nl_len]
    have := (h r hr).2.2
    omega
  rw [List.length_map] at this
  omega
theorem textL_plain {l : List Str} {n : Nat} (h : ∀ z ∈ l, lineOk n z) : plain (textL l) := plain_join plain_lit.2.2.2.2.2.2.2.2.2 fun z hz => by
  obtain ⟨r, hr, rfl⟩ := List.mem_map.mp hz
  exact plain_app (h r hr).1 plain_lit.2.1
theorem cut_plain {z : Str} {lo hi : Option Int} (h : plain z) : plain (cutS z lo hi) := fun c hc => h c (mem_cutS hc)
-- SIMP DL.dLcXM DL.lstOf_lst

local macro_rules | `(tactic| walk_at "dl") => `(tactic| try simp -implicitDefEqProofs only [DL.dNext, DL.dSeq, DL.dExpr, DL.dRet, DL.dIfS, DL.dSet, DL.dCont, DL.dRaise, DL.dFor, DL.dgName, DL.dgPair, DL.dTry, DL.dFn, DL.dMth, DL.dMk, DL.dFld, DL.dFldS, DL.dPut, DL.dVar, DL.slot, DL.dC, DL.dOp, DL.dUn, DL.oSub, DL.oMul, DL.oDiv, DL.oMod, DL.oPow, DL.oLt, DL.oLe, DL.oGt, DL.oGe, DL.oEq, DL.oNe, DL.oIn, DL.oNotIn, DL.dB, DL.dIsN, DL.dChain, DL.dAnd, DL.dOr, DL.dNot, DL.dAndV, DL.dOrV, DL.dNotV, DL.dIf, DL.dNil, DL.dCons, DL.few, DL.dLst, DL.dTup, DL.dLstM, DL.dFrz, DL.dPairs, DL.dDisp, DL.dDic0, DL.dSl, DL.dNoPart, DL.dCall, DL.dMet0L, DL.dMet, DL.dItems, DL.dRange1, DL.dEnum, DL.dLcM, DL.dwipe, DL.startD, DL.dNever, DL.el_some, DL.elL_lst, DL.elD_dic, DL.elI_ins, DL.res_non, DL.res_bl, DL.res_int, DL.res_str, DL.res_lst, DL.res_tupE, DL.res_dic, DL.res_scr, DL.res_ty, DL.oAdd_eq, DL.addR_int, DL.addR_str, DL.addR_lst, DL.addR_tup, DL.oAddM_eq, DL.addMR_lst, DL.oInt_eq, DL.intR_int, DL.oInt0_eq, DL.int0R_int, DL.oNeg_eq, DL.negR_int, DL.oEqN_eq, DL.eqR_some, DL.eqR_none, DL.eqS_non_non, DL.eqS_non_int, DL.eqS_non_bl, DL.eqS_non_str, DL.eqS_non_lst, DL.eqS_non_tup, DL.eqS_int_non, DL.eqS_int_int, DL.eqS_int_bl, DL.eqS_int_str, DL.eqS_int_lst, DL.eqS_int_tup, DL.eqS_bl_non, DL.eqS_bl_int, DL.eqS_bl_bl, DL.eqS_bl_str, DL.eqS_bl_lst, DL.eqS_bl_tup, DL.eqS_str_non, DL.eqS_str_int, DL.eqS_str_bl, DL.eqS_str_str, DL.eqS_str_lst, DL.eqS_str_tup, DL.eqS_lst_non, DL.eqS_lst_int, DL.eqS_lst_bl, DL.eqS_lst_str, DL.eqS_lst_lst, DL.eqS_lst_tup, DL.eqS_tup_non, DL.eqS_tup_int, DL.eqS_tup_bl, DL.eqS_tup_str, DL.eqS_tup_lst, DL.eqS_tup_tup, DL.eqS_obj_non, DL.eqS_non_obj, DL.eqS_obj_int, DL.eqS_int_obj, DL.eqS_obj_bl, DL.eqS_bl_obj, DL.eqS_obj_str, DL.eqS_str_obj, DL.eqS_obj_lst, DL.eqS_lst_obj, DL.eqS_obj_tup, DL.eqS_tup_obj, DL.eqS_obj_obj, DL.oInN_eq, DL.inR_lst, DL.inR_tup, DL.inR_str, DL.flatD_non, DL.flatD_bl, DL.flatD_int, DL.flatD_str, DL.asB_bl, DL.isN_non, DL.isN_bl, DL.isN_int, DL.isN_str, DL.isN_lst, DL.isN_tup, DL.isN_dic, DL.isN_scr, DL.isN_ty, DL.isN_obj, DL.frz_non, DL.frz_bl, DL.frz_int, DL.frz_str, DL.frz_lst, DL.frz_tup, DL.frz_dic, DL.frz_scr, DL.frz_ty, DL.oIx_eq, DL.ixR_lst, DL.ixR_tup, DL.ixR_scr, DL.ixR_str, DL.ixR_dic, DL.nth_0, DL.nth_1, DL.nth_2, DL.nth_3, DL.oSl_eq, DL.slR_lst, DL.slR_tup, DL.slR_str, DL.dPart_eq, DL.partR_int, DL.on1_cons, DL.on2_cons, DL.lenD_lst, DL.lenD_tup, DL.lenD_scr, DL.lenD_str, DL.intD_int, DL.intD_bl, DL.strD_int, DL.int2_int, DL.listM_lst, DL.listF_lst, DL.listM_tup, DL.listF_tup, DL.dictM_dic, DL.isiD_ty, DL.oAppend_obj, DL.oInsert_obj, DL.oPop_obj, DL.oPopAt_obj, DL.isLst_eq, DL.isLstR_lst, DL.isStr_str, DL.oSplit_str, DL.oJoin_str, DL.itemsOf_lst, DL.itemsOf_tup, DL.itemsOf_str, DL.rng1_int, DL.enumOf_lst, DL.two_tup, DL.insIs_obj, DL.getFld_obj, DL.setFld_obj, DL.putDic_obj, DL.isB_str_non, DL.isB_str_bl, DL.isB_str_int, DL.isB_str_str, DL.isB_str_lst, DL.isB_str_tup, DL.isB_str_dic, DL.isB_int_non, DL.isB_int_bl, DL.isB_int_int, DL.isB_int_str, DL.isB_int_lst, DL.isB_int_tup, DL.isB_int_dic, DL.isB_bool_non, DL.isB_bool_bl, DL.isB_bool_int, DL.isB_bool_str, DL.isB_bool_lst, DL.isB_bool_tup, DL.isB_bool_dic, DL.isB_list_non, DL.isB_list_bl, DL.isB_list_int, DL.isB_list_str, DL.isB_list_lst, DL.isB_list_tup, DL.isB_list_dic, DL.isB_tuple_non, DL.isB_tuple_bl, DL.isB_tuple_int, DL.isB_tuple_str, DL.isB_tuple_lst, DL.isB_tuple_tup, DL.isB_tuple_dic, Bool.cond_true, Bool.cond_false, L2.CDiv, Int.reduceLT, Int.reduceLE, true_and, and_true, cond_true, cond_false, List.map_cons, List.map_nil, List.set_cons_zero, List.set_cons_succ, List.set_nil, DL.cpow_109, DL.pow_109, DL.frz_set_lst, DL.frz_set_dic, Bool.not_true, Bool.not_false, DL.itemsOf_obj, DL.enumOf_obj, DL.all_still, okD_non, okD_bl, okD_int, okD_str, okD_lst, okD_tup, okD_dic, res_set_lst, Mem.set_same, Mem.set_set, DL.dLcXM, DL.lstOf_lst])
/-! ### _law_cell_at(_law_script, _law_k): 0 _law_script, 1 _law_k -/
def t_l_cell_at_1  : DSt :=
  (dRet (dC (.int 0)))
def t_l_cell_at  : DSt :=
  (dSeq (dIfS (dB (dOp oLt (dVar 1) (dCall (on1 lenD) (dCons (dVar 0) dNil)))) (dRet (dOp oIx (dVar 0) (dVar 1))) dNext)
  t_l_cell_at_1)
local macro_rules | `(tactic| walk_at "un") => `(tactic| simp only [t_l_cell_at_1, t_l_cell_at])
def m_l_cell_at : FDm := fun ds M Q _ => match ds with
  | [.scr ns, .int k] => 0 ≤ k ∧ Q (.int (cellAt ns k)) M
  | _ => False
theorem len_l_cell_at : ∀ ds M Q X, m_l_cell_at ds M Q X → ds.length = 2 := fun ds M Q X h => by
  unfold m_l_cell_at at h
  split at h <;> first | rfl | exact h.elim
theorem read_l_cell_at : ∀ ds M Q X, m_l_cell_at ds M Q X → t_l_cell_at (bodyE Q X) (startD 2 ds) M := by
  intro ds M Q X h
  unfold m_l_cell_at at h
  split at h
  · rename_i ns k
    obtain ⟨h0, h⟩ := h
    walk_at "un"
    walk_at "dl"
    unfold cellAt at h
    refine cond_dec (fun hx => ?_) fun hx => ?_
    · have hk : k.toNat < ns.length := by omega
      rw [nth_toNat _ h0, List.getElem?_eq_getElem hk]
      rw [List.getElem?_eq_getElem hk] at h
      exact retD_of h
    · have hk : ns.length ≤ k.toNat := by omega
      rw [List.getElem?_eq_none hk] at h
      exact retD_of h
  · exact h.elim
-- SIMP m_l_cell_at Int.reduceLE

local macro_rules | `(tactic| walk_at "dl") => `(tactic| try simp -implicitDefEqProofs only [DL.dNext, DL.dSeq, DL.dExpr, DL.dRet, DL.dIfS, DL.dSet, DL.dCont, DL.dRaise, DL.dFor, DL.dgName, DL.dgPair, DL.dTry, DL.dFn, DL.dMth, DL.dMk, DL.dFld, DL.dFldS, DL.dPut, DL.dVar, DL.slot, DL.dC, DL.dOp, DL.dUn, DL.oSub, DL.oMul, DL.oDiv, DL.oMod, DL.oPow, DL.oLt, DL.oLe, DL.oGt, DL.oGe, DL.oEq, DL.oNe, DL.oIn, DL.oNotIn, DL.dB, DL.dIsN, DL.dChain, DL.dAnd, DL.dOr, DL.dNot, DL.dAndV, DL.dOrV, DL.dNotV, DL.dIf, DL.dNil, DL.dCons, DL.few, DL.dLst, DL.dTup, DL.dLstM, DL.dFrz, DL.dPairs, DL.dDisp, DL.dDic0, DL.dSl, DL.dNoPart, DL.dCall, DL.dMet0L, DL.dMet, DL.dItems, DL.dRange1, DL.dEnum, DL.dLcM, DL.dwipe, DL.startD, DL.dNever, DL.el_some, DL.elL_lst, DL.elD_dic, DL.elI_ins, DL.res_non, DL.res_bl, DL.res_int, DL.res_str, DL.res_lst, DL.res_tupE, DL.res_dic, DL.res_scr, DL.res_ty, DL.oAdd_eq, DL.addR_int, DL.addR_str, DL.addR_lst, DL.addR_tup, DL.oAddM_eq, DL.addMR_lst, DL.oInt_eq, DL.intR_int, DL.oInt0_eq, DL.int0R_int, DL.oNeg_eq, DL.negR_int, DL.oEqN_eq, DL.eqR_some, DL.eqR_none, DL.eqS_non_non, DL.eqS_non_int, DL.eqS_non_bl, DL.eqS_non_str, DL.eqS_non_lst, DL.eqS_non_tup, DL.eqS_int_non, DL.eqS_int_int, DL.eqS_int_bl, DL.eqS_int_str, DL.eqS_int_lst, DL.eqS_int_tup, DL.eqS_bl_non, DL.eqS_bl_int, DL.eqS_bl_bl, DL.eqS_bl_str, DL.eqS_bl_lst, DL.eqS_bl_tup, DL.eqS_str_non, DL.eqS_str_int, DL.eqS_str_bl, DL.eqS_str_str, DL.eqS_str_lst, DL.eqS_str_tup, DL.eqS_lst_non, DL.eqS_lst_int, DL.eqS_lst_bl, DL.eqS_lst_str, DL.eqS_lst_lst, DL.eqS_lst_tup, DL.eqS_tup_non, DL.eqS_tup_int, DL.eqS_tup_bl, DL.eqS_tup_str, DL.eqS_tup_lst, DL.eqS_tup_tup, DL.eqS_obj_non, DL.eqS_non_obj, DL.eqS_obj_int, DL.eqS_int_obj, DL.eqS_obj_bl, DL.eqS_bl_obj, DL.eqS_obj_str, DL.eqS_str_obj, DL.eqS_obj_lst, DL.eqS_lst_obj, DL.eqS_obj_tup, DL.eqS_tup_obj, DL.eqS_obj_obj, DL.oInN_eq, DL.inR_lst, DL.inR_tup, DL.inR_str, DL.flatD_non, DL.flatD_bl, DL.flatD_int, DL.flatD_str, DL.asB_bl, DL.isN_non, DL.isN_bl, DL.isN_int, DL.isN_str, DL.isN_lst, DL.isN_tup, DL.isN_dic, DL.isN_scr, DL.isN_ty, DL.isN_obj, DL.frz_non, DL.frz_bl, DL.frz_int, DL.frz_str, DL.frz_lst, DL.frz_tup, DL.frz_dic, DL.frz_scr, DL.frz_ty, DL.oIx_eq, DL.ixR_lst, DL.ixR_tup, DL.ixR_scr, DL.ixR_str, DL.ixR_dic, DL.nth_0, DL.nth_1, DL.nth_2, DL.nth_3, DL.oSl_eq, DL.slR_lst, DL.slR_tup, DL.slR_str, DL.dPart_eq, DL.partR_int, DL.on1_cons, DL.on2_cons, DL.lenD_lst, DL.lenD_tup, DL.lenD_scr, DL.lenD_str, DL.intD_int, DL.intD_bl, DL.strD_int, DL.int2_int, DL.listM_lst, DL.listF_lst, DL.listM_tup, DL.listF_tup, DL.dictM_dic, DL.isiD_ty, DL.oAppend_obj, DL.oInsert_obj, DL.oPop_obj, DL.oPopAt_obj, DL.isLst_eq, DL.isLstR_lst, DL.isStr_str, DL.oSplit_str, DL.oJoin_str, DL.itemsOf_lst, DL.itemsOf_tup, DL.itemsOf_str, DL.rng1_int, DL.enumOf_lst, DL.two_tup, DL.insIs_obj, DL.getFld_obj, DL.setFld_obj, DL.putDic_obj, DL.isB_str_non, DL.isB_str_bl, DL.isB_str_int, DL.isB_str_str, DL.isB_str_lst, DL.isB_str_tup, DL.isB_str_dic, DL.isB_int_non, DL.isB_int_bl, DL.isB_int_int, DL.isB_int_str, DL.isB_int_lst, DL.isB_int_tup, DL.isB_int_dic, DL.isB_bool_non, DL.isB_bool_bl, DL.isB_bool_int, DL.isB_bool_str, DL.isB_bool_lst, DL.isB_bool_tup, DL.isB_bool_dic, DL.isB_list_non, DL.isB_list_bl, DL.isB_list_int, DL.isB_list_str, DL.isB_list_lst, DL.isB_list_tup, DL.isB_list_dic, DL.isB_tuple_non, DL.isB_tuple_bl, DL.isB_tuple_int, DL.isB_tuple_str, DL.isB_tuple_lst, DL.isB_tuple_tup, DL.isB_tuple_dic, Bool.cond_true, Bool.cond_false, L2.CDiv, Int.reduceLT, Int.reduceLE, true_and, and_true, cond_true, cond_false, List.map_cons, List.map_nil, List.set_cons_zero, List.set_cons_succ, List.set_nil, DL.cpow_109, DL.pow_109, DL.frz_set_lst, DL.frz_set_dic, Bool.not_true, Bool.not_false, DL.itemsOf_obj, DL.enumOf_obj, DL.all_still, okD_non, okD_bl, okD_int, okD_str, okD_lst, okD_tup, okD_dic, res_set_lst, Mem.set_same, Mem.set_set, DL.dLcXM, DL.lstOf_lst, m_l_cell_at, Int.reduceLE])
/-! ### is_wish(thing): 0 thing -/
def t_is_wish  : DSt :=
  (dRet (dAndV (dCall (on2 isiD) (dCons (dVar 0) (dCons (dC (.ty "str")) dNil))) (dOrV (dOp oEq (dVar 0) (dC (.str "read"))) (dOp oEq (dVar 0) (dC (.str "write"))))))
local macro_rules | `(tactic| walk_at "un") => `(tactic| simp only [t_is_wish])
def m_is_wish : FDm := fun ds M Q _ => match ds with
  | [d] => okD d = true ∧ Q (.bl (isWish d)) M
  | _ => False
theorem len_is_wish : ∀ ds M Q X, m_is_wish ds M Q X → ds.length = 1 := fun ds M Q X h => by
  unfold m_is_wish at h
  split at h <;> first | rfl | exact h.elim
theorem read_is_wish : ∀ ds M Q X, m_is_wish ds M Q X → t_is_wish (bodyE Q X) (startD 1 ds) M := by
  intro ds M Q X h
  unfold m_is_wish at h
  split at h
  rotate_left
  · exact h.elim
  rename_i d
  obtain ⟨hd, h⟩ := h
  walk_at "un"
  cases d with
  | str z =>
    walk_at "dl"
    have hw : isWish (.str z) = (decide (z = Str.ofString "read") || decide (z = Str.ofString "write")) := rfl
    rw [hw] at h
    refine cond_dec (fun h1 => ?_) fun h1 => ?_
    · rw [decide_eq_true h1, Bool.true_or] at h
      exact retD_of h
    · rw [decide_eq_false h1, Bool.false_or] at h
      exact retD_of h
  | non => walk_at "dl"; exact retD_of h
  | bl b => walk_at "dl"; exact retD_of h
  | int b => walk_at "dl"; exact retD_of h
  | lst b => walk_at "dl"; exact retD_of h
  | tup b => walk_at "dl"; exact retD_of h
  | dic b => walk_at "dl"; exact retD_of h
  | scr b => cases hd
  | obj b => cases hd
  | ty b => cases hd
-- SIMP m_is_wish

local macro_rules | `(tactic| walk_at "dl") => `(tactic| try simp -implicitDefEqProofs only [DL.dNext, DL.dSeq, DL.dExpr, DL.dRet, DL.dIfS, DL.dSet, DL.dCont, DL.dRaise, DL.dFor, DL.dgName, DL.dgPair, DL.dTry, DL.dFn, DL.dMth, DL.dMk, DL.dFld, DL.dFldS, DL.dPut, DL.dVar, DL.slot, DL.dC, DL.dOp, DL.dUn, DL.oSub, DL.oMul, DL.oDiv, DL.oMod, DL.oPow, DL.oLt, DL.oLe, DL.oGt, DL.oGe, DL.oEq, DL.oNe, DL.oIn, DL.oNotIn, DL.dB, DL.dIsN, DL.dChain, DL.dAnd, DL.dOr, DL.dNot, DL.dAndV, DL.dOrV, DL.dNotV, DL.dIf, DL.dNil, DL.dCons, DL.few, DL.dLst, DL.dTup, DL.dLstM, DL.dFrz, DL.dPairs, DL.dDisp, DL.dDic0, DL.dSl, DL.dNoPart, DL.dCall, DL.dMet0L, DL.dMet, DL.dItems, DL.dRange1, DL.dEnum, DL.dLcM, DL.dwipe, DL.startD, DL.dNever, DL.el_some, DL.elL_lst, DL.elD_dic, DL.elI_ins, DL.res_non, DL.res_bl, DL.res_int, DL.res_str, DL.res_lst, DL.res_tupE, DL.res_dic, DL.res_scr, DL.res_ty, DL.oAdd_eq, DL.addR_int, DL.addR_str, DL.addR_lst, DL.addR_tup, DL.oAddM_eq, DL.addMR_lst, DL.oInt_eq, DL.intR_int, DL.oInt0_eq, DL.int0R_int, DL.oNeg_eq, DL.negR_int, DL.oEqN_eq, DL.eqR_some, DL.eqR_none, DL.eqS_non_non, DL.eqS_non_int, DL.eqS_non_bl, DL.eqS_non_str, DL.eqS_non_lst, DL.eqS_non_tup, DL.eqS_int_non, DL.eqS_int_int, DL.eqS_int_bl, DL.eqS_int_str, DL.eqS_int_lst, DL.eqS_int_tup, DL.eqS_bl_non, DL.eqS_bl_int, DL.eqS_bl_bl, DL.eqS_bl_str, DL.eqS_bl_lst, DL.eqS_bl_tup, DL.eqS_str_non, DL.eqS_str_int, DL.eqS_str_bl, DL.eqS_str_str, DL.eqS_str_lst, DL.eqS_str_tup, DL.eqS_lst_non, DL.eqS_lst_int, DL.eqS_lst_bl, DL.eqS_lst_str, DL.eqS_lst_lst, DL.eqS_lst_tup, DL.eqS_tup_non, DL.eqS_tup_int, DL.eqS_tup_bl, DL.eqS_tup_str, DL.eqS_tup_lst, DL.eqS_tup_tup, DL.eqS_obj_non, DL.eqS_non_obj, DL.eqS_obj_int, DL.eqS_int_obj, DL.eqS_obj_bl, DL.eqS_bl_obj, DL.eqS_obj_str, DL.eqS_str_obj, DL.eqS_obj_lst, DL.eqS_lst_obj, DL.eqS_obj_tup, DL.eqS_tup_obj, DL.eqS_obj_obj, DL.oInN_eq, DL.inR_lst, DL.inR_tup, DL.inR_str, DL.flatD_non, DL.flatD_bl, DL.flatD_int, DL.flatD_str, DL.asB_bl, DL.isN_non, DL.isN_bl, DL.isN_int, DL.isN_str, DL.isN_lst, DL.isN_tup, DL.isN_dic, DL.isN_scr, DL.isN_ty, DL.isN_obj, DL.frz_non, DL.frz_bl, DL.frz_int, DL.frz_str, DL.frz_lst, DL.frz_tup, DL.frz_dic, DL.frz_scr, DL.frz_ty, DL.oIx_eq, DL.ixR_lst, DL.ixR_tup, DL.ixR_scr, DL.ixR_str, DL.ixR_dic, DL.nth_0, DL.nth_1, DL.nth_2, DL.nth_3, DL.oSl_eq, DL.slR_lst, DL.slR_tup, DL.slR_str, DL.dPart_eq, DL.partR_int, DL.on1_cons, DL.on2_cons, DL.lenD_lst, DL.lenD_tup, DL.lenD_scr, DL.lenD_str, DL.intD_int, DL.intD_bl, DL.strD_int, DL.int2_int, DL.listM_lst, DL.listF_lst, DL.listM_tup, DL.listF_tup, DL.dictM_dic, DL.isiD_ty, DL.oAppend_obj, DL.oInsert_obj, DL.oPop_obj, DL.oPopAt_obj, DL.isLst_eq, DL.isLstR_lst, DL.isStr_str, DL.oSplit_str, DL.oJoin_str, DL.itemsOf_lst, DL.itemsOf_tup, DL.itemsOf_str, DL.rng1_int, DL.enumOf_lst, DL.two_tup, DL.insIs_obj, DL.getFld_obj, DL.setFld_obj, DL.putDic_obj, DL.isB_str_non, DL.isB_str_bl, DL.isB_str_int, DL.isB_str_str, DL.isB_str_lst, DL.isB_str_tup, DL.isB_str_dic, DL.isB_int_non, DL.isB_int_bl, DL.isB_int_int, DL.isB_int_str, DL.isB_int_lst, DL.isB_int_tup, DL.isB_int_dic, DL.isB_bool_non, DL.isB_bool_bl, DL.isB_bool_int, DL.isB_bool_str, DL.isB_bool_lst, DL.isB_bool_tup, DL.isB_bool_dic, DL.isB_list_non, DL.isB_list_bl, DL.isB_list_int, DL.isB_list_str, DL.isB_list_lst, DL.isB_list_tup, DL.isB_list_dic, DL.isB_tuple_non, DL.isB_tuple_bl, DL.isB_tuple_int, DL.isB_tuple_str, DL.isB_tuple_lst, DL.isB_tuple_tup, DL.isB_tuple_dic, Bool.cond_true, Bool.cond_false, L2.CDiv, Int.reduceLT, Int.reduceLE, true_and, and_true, cond_true, cond_false, List.map_cons, List.map_nil, List.set_cons_zero, List.set_cons_succ, List.set_nil, DL.cpow_109, DL.pow_109, DL.frz_set_lst, DL.frz_set_dic, Bool.not_true, Bool.not_false, DL.itemsOf_obj, DL.enumOf_obj, DL.all_still, okD_non, okD_bl, okD_int, okD_str, okD_lst, okD_tup, okD_dic, res_set_lst, Mem.set_same, Mem.set_set, DL.dLcXM, DL.lstOf_lst, m_l_cell_at, Int.reduceLE, m_is_wish])
/-! ### is_name(thing): 0 thing, 1 sign -/
def t_is_name_L1  : DSt :=
  (dIfS (dB (dOp oNotIn (dVar 1) (dC (.str "abcdefghijklmnopqrstuvwxyz0123456789")))) (dRet (dC (.bl false))) dNext)
def t_is_name_2  : DSt :=
  (dRet (dC (.bl true)))
def t_is_name_1  : DSt :=
  (dSeq (dFor (dSigns (dVar 0)) (dgName 1) t_is_name_L1)
  t_is_name_2)
def t_is_name  : DSt :=
  (dSeq (dIfS (dOr (dNot (dB (dCall (on2 isiD) (dCons (dVar 0) (dCons (dC (.ty "str")) dNil))))) (dNot (dB (dChain oLe oLe (dC (.int 1)) (dCall (on1 lenD) (dCons (dVar 0) dNil)) (dC (.int 12)))))) (dRet (dC (.bl false))) dNext)
  t_is_name_1)
local macro_rules | `(tactic| walk_at "un") => `(tactic| simp only [t_is_name_2, t_is_name_1, t_is_name])
def m_is_name : FDm := fun ds M Q _ => match ds with
  | [d] => okD d = true ∧ Q (.bl (isName d)) M
  | _ => False
theorem len_is_name : ∀ ds M Q X, m_is_name ds M Q X → ds.length = 1 := fun ds M Q X h => by
  unfold m_is_name at h
  split at h <;> first | rfl | exact h.elim
theorem name_loop {E : DEnds} {M : Mem} {d : D} : ∀ (cs : List Nat) (o : Option D), (cs.all (fun c => decide (c ∈ signsL)) = true → ∀ o, E.nx [some d, o] M) → (cs.all (fun c => decide (c ∈ signsL)) = false → E.rt (.bl false) M) →
    forL (dgName 1) (dIfS (dB (dOp oNotIn (dVar 1) (dC (.str "abcdefghijklmnopqrstuvwxyz0123456789")))) (dRet (dC (.bl false))) dNext) E (cs.map fun c => .str ⟨#[c]⟩) [some d, o] M
  | [], o, h1, _ => h1 rfl o
  | c :: cs, o, h1, h2 => by
    rw [List.map_cons]
    rw [List.all_cons] at h1 h2
    unfold forL
    simp only [dgName, List.set_cons_zero, List.set_cons_succ, dIfS, dB, dOp, dVar, slot, el_some, dC, oNotIn, oInN_eq, res_str, inR_str, asB_bl, dRet, dNext, cond_true]
    refine cond_of (fun hc => ?_) fun hc => ?_
    · refine h2 ?_
      have : decide (c ∈ signsL) = false := by simpa [signsL] using hc
      rw [this]
      rfl
    · have hc' : decide (c ∈ signsL) = true := by simpa [signsL] using hc
      rw [hc', Bool.true_and] at h1 h2
      exact name_loop (E := E) cs _ h1 h2
theorem read_is_name : ∀ ds M Q X, m_is_name ds M Q X → t_is_name (bodyE Q X) (startD 2 ds) M := by
  intro ds M Q X h
  unfold m_is_name at h
  split at h
  rotate_left
  · exact h.elim
  rename_i d
  obtain ⟨hd, h⟩ := h
  walk_at "un"
  cases d with
  | str z =>
    simp only [dSeq, dIfS, dOr, dNot, dB, dCall, dCons, dNil, dVar, startD, slot, el_some, dC, on2_cons, res_str, res_ty, isiD_ty, isB_str_str, asB_bl, dChain, on1_cons, lenD_str, oLe, oInt0_eq, res_int, int0R_int, Bool.not_true, Bool.not_false, cond_true, cond_false, dRet, dNext, dFor, dSigns, signsOf_str]
    have hn : isName (.str z) = nameOk z := rfl
    rw [hn] at h
    unfold nameOk at h
    refine cond_of (fun h1 => cond_of (fun h2 => ?_) fun h2 => ?_) fun h1 => ?_
    · have h2' : ¬ z.length ≤ 12 := by
        have : ¬ ((z.length : Int) ≤ 12) := by simpa using h2
        omega
      rw [decide_eq_false h2', Bool.and_false, Bool.false_and] at h
      exact retD_of h
    · have h2' : z.length ≤ 12 := by
        have : ((z.length : Int) ≤ 12) := by simpa using h2
        omega
      have h1' : 1 ≤ z.length := by
        have : (1 ≤ (z.length : Int)) := by simpa using h1
        omega
      rw [decide_eq_true h1', decide_eq_true h2', Bool.true_and, Bool.true_and] at h
      unfold signsD
      unfold t_is_name_L1
      refine forI_of (name_loop _ _ (fun ha o => ?_) fun ha => ?_)
      · rw [ha] at h
        exact retD_of h
      · rw [ha] at h
        exact retD_of h
    · have h1' : ¬ 1 ≤ z.length := by
        have : ¬ (1 ≤ (z.length : Int)) := by simpa using h1
        omega
      rw [decide_eq_false h1', Bool.false_and, Bool.false_and] at h
      exact retD_of h
  | non => walk_at "dl"; exact retD_of h
  | bl b => walk_at "dl"; exact retD_of h
  | int b => walk_at "dl"; exact retD_of h
  | lst b => walk_at "dl"; exact retD_of h
  | tup b => walk_at "dl"; exact retD_of h
  | dic b => walk_at "dl"; exact retD_of h
  | scr b => cases hd
  | obj b => cases hd
  | ty b => cases hd
-- SIMP m_is_name

local macro_rules | `(tactic| walk_at "dl") => `(tactic| try simp -implicitDefEqProofs only [DL.dNext, DL.dSeq, DL.dExpr, DL.dRet, DL.dIfS, DL.dSet, DL.dCont, DL.dRaise, DL.dFor, DL.dgName, DL.dgPair, DL.dTry, DL.dFn, DL.dMth, DL.dMk, DL.dFld, DL.dFldS, DL.dPut, DL.dVar, DL.slot, DL.dC, DL.dOp, DL.dUn, DL.oSub, DL.oMul, DL.oDiv, DL.oMod, DL.oPow, DL.oLt, DL.oLe, DL.oGt, DL.oGe, DL.oEq, DL.oNe, DL.oIn, DL.oNotIn, DL.dB, DL.dIsN, DL.dChain, DL.dAnd, DL.dOr, DL.dNot, DL.dAndV, DL.dOrV, DL.dNotV, DL.dIf, DL.dNil, DL.dCons, DL.few, DL.dLst, DL.dTup, DL.dLstM, DL.dFrz, DL.dPairs, DL.dDisp, DL.dDic0, DL.dSl, DL.dNoPart, DL.dCall, DL.dMet0L, DL.dMet, DL.dItems, DL.dRange1, DL.dEnum, DL.dLcM, DL.dwipe, DL.startD, DL.dNever, DL.el_some, DL.elL_lst, DL.elD_dic, DL.elI_ins, DL.res_non, DL.res_bl, DL.res_int, DL.res_str, DL.res_lst, DL.res_tupE, DL.res_dic, DL.res_scr, DL.res_ty, DL.oAdd_eq, DL.addR_int, DL.addR_str, DL.addR_lst, DL.addR_tup, DL.oAddM_eq, DL.addMR_lst, DL.oInt_eq, DL.intR_int, DL.oInt0_eq, DL.int0R_int, DL.oNeg_eq, DL.negR_int, DL.oEqN_eq, DL.eqR_some, DL.eqR_none, DL.eqS_non_non, DL.eqS_non_int, DL.eqS_non_bl, DL.eqS_non_str, DL.eqS_non_lst, DL.eqS_non_tup, DL.eqS_int_non, DL.eqS_int_int, DL.eqS_int_bl, DL.eqS_int_str, DL.eqS_int_lst, DL.eqS_int_tup, DL.eqS_bl_non, DL.eqS_bl_int, DL.eqS_bl_bl, DL.eqS_bl_str, DL.eqS_bl_lst, DL.eqS_bl_tup, DL.eqS_str_non, DL.eqS_str_int, DL.eqS_str_bl, DL.eqS_str_str, DL.eqS_str_lst, DL.eqS_str_tup, DL.eqS_lst_non, DL.eqS_lst_int, DL.eqS_lst_bl, DL.eqS_lst_str, DL.eqS_lst_lst, DL.eqS_lst_tup, DL.eqS_tup_non, DL.eqS_tup_int, DL.eqS_tup_bl, DL.eqS_tup_str, DL.eqS_tup_lst, DL.eqS_tup_tup, DL.eqS_obj_non, DL.eqS_non_obj, DL.eqS_obj_int, DL.eqS_int_obj, DL.eqS_obj_bl, DL.eqS_bl_obj, DL.eqS_obj_str, DL.eqS_str_obj, DL.eqS_obj_lst, DL.eqS_lst_obj, DL.eqS_obj_tup, DL.eqS_tup_obj, DL.eqS_obj_obj, DL.oInN_eq, DL.inR_lst, DL.inR_tup, DL.inR_str, DL.flatD_non, DL.flatD_bl, DL.flatD_int, DL.flatD_str, DL.asB_bl, DL.isN_non, DL.isN_bl, DL.isN_int, DL.isN_str, DL.isN_lst, DL.isN_tup, DL.isN_dic, DL.isN_scr, DL.isN_ty, DL.isN_obj, DL.frz_non, DL.frz_bl, DL.frz_int, DL.frz_str, DL.frz_lst, DL.frz_tup, DL.frz_dic, DL.frz_scr, DL.frz_ty, DL.oIx_eq, DL.ixR_lst, DL.ixR_tup, DL.ixR_scr, DL.ixR_str, DL.ixR_dic, DL.nth_0, DL.nth_1, DL.nth_2, DL.nth_3, DL.oSl_eq, DL.slR_lst, DL.slR_tup, DL.slR_str, DL.dPart_eq, DL.partR_int, DL.on1_cons, DL.on2_cons, DL.lenD_lst, DL.lenD_tup, DL.lenD_scr, DL.lenD_str, DL.intD_int, DL.intD_bl, DL.strD_int, DL.int2_int, DL.listM_lst, DL.listF_lst, DL.listM_tup, DL.listF_tup, DL.dictM_dic, DL.isiD_ty, DL.oAppend_obj, DL.oInsert_obj, DL.oPop_obj, DL.oPopAt_obj, DL.isLst_eq, DL.isLstR_lst, DL.isStr_str, DL.oSplit_str, DL.oJoin_str, DL.itemsOf_lst, DL.itemsOf_tup, DL.itemsOf_str, DL.rng1_int, DL.enumOf_lst, DL.two_tup, DL.insIs_obj, DL.getFld_obj, DL.setFld_obj, DL.putDic_obj, DL.isB_str_non, DL.isB_str_bl, DL.isB_str_int, DL.isB_str_str, DL.isB_str_lst, DL.isB_str_tup, DL.isB_str_dic, DL.isB_int_non, DL.isB_int_bl, DL.isB_int_int, DL.isB_int_str, DL.isB_int_lst, DL.isB_int_tup, DL.isB_int_dic, DL.isB_bool_non, DL.isB_bool_bl, DL.isB_bool_int, DL.isB_bool_str, DL.isB_bool_lst, DL.isB_bool_tup, DL.isB_bool_dic, DL.isB_list_non, DL.isB_list_bl, DL.isB_list_int, DL.isB_list_str, DL.isB_list_lst, DL.isB_list_tup, DL.isB_list_dic, DL.isB_tuple_non, DL.isB_tuple_bl, DL.isB_tuple_int, DL.isB_tuple_str, DL.isB_tuple_lst, DL.isB_tuple_tup, DL.isB_tuple_dic, Bool.cond_true, Bool.cond_false, L2.CDiv, Int.reduceLT, Int.reduceLE, true_and, and_true, cond_true, cond_false, List.map_cons, List.map_nil, List.set_cons_zero, List.set_cons_succ, List.set_nil, DL.cpow_109, DL.pow_109, DL.frz_set_lst, DL.frz_set_dic, Bool.not_true, Bool.not_false, DL.itemsOf_obj, DL.enumOf_obj, DL.all_still, okD_non, okD_bl, okD_int, okD_str, okD_lst, okD_tup, okD_dic, res_set_lst, Mem.set_same, Mem.set_set, DL.dLcXM, DL.lstOf_lst, m_l_cell_at, Int.reduceLE, m_is_wish, m_is_name])
/-! ### read_row(line): 0 line, 1 words -/
def t_read_row_3 (A : Adr) : DSt :=
  (dRaise A.BadText)
def t_read_row_2 (A : Adr) : DSt :=
  (dSeq (dIfS (dAnd (dB (dOp oEq (dCall (on1 lenD) (dCons (dVar 1) dNil)) (dC (.int 2)))) (dOr (dB (dOp oEq (dOp oIx (dVar 1) (dC (.int 0))) (dC (.str "left")))) (dOr (dB (dOp oEq (dOp oIx (dVar 1) (dC (.int 0))) (dC (.str "asked")))) (dB (dOp oEq (dOp oIx (dVar 1) (dC (.int 0))) (dC (.str "eased"))))))) (dIfS (dB (dFn m_is_name (dCons (dOp oIx (dVar 1) (dC (.int 1))) dNil))) (dRet (dTup (dCons (dOp oIx (dVar 1) (dC (.int 0))) (dCons (dOp oIx (dVar 1) (dC (.int 1))) dNil)))) dNext) dNext)
  (t_read_row_3 A))
def t_read_row_1 (A : Adr) : DSt :=
  (dSeq (dIfS (dAnd (dB (dOp oEq (dCall (on1 lenD) (dCons (dVar 1) dNil)) (dC (.int 3)))) (dOr (dB (dOp oEq (dOp oIx (dVar 1) (dC (.int 0))) (dC (.str "came")))) (dB (dOp oEq (dOp oIx (dVar 1) (dC (.int 0))) (dC (.str "begins")))))) (dIfS (dAnd (dB (dFn m_is_name (dCons (dOp oIx (dVar 1) (dC (.int 1))) dNil))) (dB (dFn m_is_wish (dCons (dOp oIx (dVar 1) (dC (.int 2))) dNil)))) (dRet (dTup (dCons (dOp oIx (dVar 1) (dC (.int 0))) (dCons (dOp oIx (dVar 1) (dC (.int 1))) (dCons (dOp oIx (dVar 1) (dC (.int 2))) dNil))))) dNext) dNext)
  (t_read_row_2 A))
def t_read_row (A : Adr) : DSt :=
  (dSeq (dSet 1 (dMet isStr oSplit (dVar 0) (dCons (dC (.str " ")) dNil)))
  (t_read_row_1 A))
local macro_rules | `(tactic| walk_at "un") => `(tactic| simp only [t_read_row_3, t_read_row_2, t_read_row_1, t_read_row])
def word3 (a b c : Str) : Bool := (decide (a = Str.ofString "came") || decide (a = Str.ofString "begins")) && (nameOk b && isWish (.str c))
def word2 (a b : Str) : Bool := (decide (a = Str.ofString "left") || (decide (a = Str.ofString "asked") || decide (a = Str.ofString "eased"))) && nameOk b
/-- whether words are a row's -/
def wordsOk : List Str → Bool
  | [a, b, c] => word3 a b c
  | [a, b] => word2 a b
  | _ => false
def m_read_row (A : Adr) : FDm := fun ds M Q X => match ds with
  | [.str z] => z.length ≤ 1000000 ∧ strOk z = true ∧ (wordsOk (Txt.split z sp) = true → Q (.tup ((Txt.split z sp).map .str)) M) ∧ (wordsOk (Txt.split z sp) = false → X A.BadText M)
  | _ => False
theorem len_read_row (A : Adr) : ∀ ds M Q X, m_read_row A ds M Q X → ds.length = 1 := fun ds M Q X h => by
  unfold m_read_row at h
  split at h <;> first | rfl | exact h.elim
theorem mem_joinL_of {S p : List Nat} {c : Nat} : ∀ {ps : List (List Nat)}, p ∈ ps → c ∈ p → c ∈ TL.joinL S ps
  | [], h, _ => by cases h
  | [q], h, k => by
    rw [List.mem_singleton.mp h] at k
    exact k
  | x :: q :: r, h, k => by
    show c ∈ x ++ (S ++ TL.joinL S (q :: r))
    rcases List.mem_cons.mp h with e | h
    · subst e; exact List.mem_append.mpr (.inl k)
    · exact List.mem_append.mpr (.inr (List.mem_append.mpr (.inr (mem_joinL_of h k))))
theorem split_mem {z y p : Str} (h : p ∈ Txt.split z y) {c : Nat} (hc : c ∈ p.cps.toList) : c ∈ z.cps.toList := by
  have e := StrLaws.join_split z y
  rw [← e]
  show c ∈ TL.tl (Str.join y (Txt.split z y))
  rw [TL.tl_join]
  exact mem_joinL_of (List.mem_map.mpr ⟨p, h, rfl⟩) hc
theorem le_sum {l : List Str} {p : Str} (h : p ∈ l) : p.length ≤ (l.map (·.length)).sum := by
  induction l with
  | nil => cases h
  | cons x l ih =>
    rw [List.map_cons, List.sum_cons]
    rcases List.mem_cons.mp h with e | h
    · subst e; omega
    · have := ih h; omega
theorem split_parts {z y p : Str} (hy : 1 ≤ y.length) (hz : strOk z = true) (hl : z.length ≤ 1000000) (h : p ∈ Txt.split z y) : strOk p = true := by
  have w := PyProof.Rows.split_weight z y hy
  have := le_sum h
  refine strOk_iff.mpr ⟨fun c hc => (strOk_iff.mp hz).1 c (split_mem h hc), by rw [sizeLine_eq]; omega⟩
theorem read_read_row (A : Adr) : ∀ ds M Q X, m_read_row A ds M Q X → t_read_row A (bodyE Q X) (startD 2 ds) M := by
  intro ds M Q X h
  unfold m_read_row at h
  split at h
  rotate_left
  · exact h.elim
  rename_i z
  obtain ⟨hl, hz, hq, hx⟩ := h
  unfold t_read_row t_read_row_1
  walk_at "dl"
  have w := PyProof.Rows.split_weight z sp (by rw [sp_len]; omega)
  refine ⟨by decide +kernel, by rw [sizeLine_eq]; omega, ?_, fun p hp => split_parts (y := sp) (by rw [sp_len]; omega) hz hl hp, ?_⟩
  · show (Txt.split z sp).length ≤ _
    rw [sizeLine_eq]
    omega
  have e0 : Txt.split z (Str.ofString " ") = Txt.split z sp := rfl
  rw [e0]
  generalize Txt.split z sp = ws at hq hx w
  have no : wordsOk ws = false → retX X A.BadText [some (.str z), some (.lst (ws.map .str))] M := fun e => retX_of (hx e)
  match ws with
  | [] =>
    walk_at "dl"
    refine cond_dec (fun h => absurd h (by decide)) fun _ => ?_
    unfold t_read_row_2
    walk_at "dl"
    refine cond_dec (fun h => absurd h (by decide)) fun _ => ?_
    unfold t_read_row_3
    walk_at "dl"
    exact no rfl
  | [a] =>
    walk_at "dl"
    refine cond_dec (fun h => absurd h (by show ¬ (1 : Int) = 3; decide)) fun _ => ?_
    unfold t_read_row_2
    walk_at "dl"
    refine cond_dec (fun h => absurd h (by show ¬ (1 : Int) = 2; decide)) fun _ => ?_
    unfold t_read_row_3
    walk_at "dl"
    exact no rfl
  | [a, b] =>
    walk_at "dl"
    refine cond_dec (fun h => absurd h (by show ¬ (2 : Int) = 3; decide)) fun _ => ?_
    unfold t_read_row_2
    walk_at "dl"
    refine cond_dec (fun _ => ?_) fun h => absurd (show (2 : Int) = 2 from rfl) h
    have hw : wordsOk [a, b] = word2 a b := rfl
    have hn : isName (.str b) = nameOk b := rfl
    rw [hw] at hq no
    rw [hn]
    unfold word2 at hq no
    have out : ((decide (a = Str.ofString "left") || (decide (a = Str.ofString "asked") || decide (a = Str.ofString "eased"))) && nameOk b) = false → t_read_row_3 A (bodyE Q X) [some (.str z), some (.lst [.str a, .str b])] M := fun e => by
      unfold t_read_row_3
      walk_at "dl"
      exact no e
    refine cond_dec (fun h1 => cond_of (fun h2 => ?_) fun h2 => ?_) fun h1 => cond_dec (fun h3 => cond_of (fun h2 => ?_) fun h2 => ?_) fun h3 => cond_dec (fun h4 => cond_of (fun h2 => ?_) fun h2 => ?_) fun h4 => ?_
    · exact retD_of (hq (by simp [h1, h2]))
    · exact out (by simp [h2])
    · exact retD_of (hq (by simp [h3, h2]))
    · exact out (by simp [h2])
    · exact retD_of (hq (by simp [h4, h2]))
    · exact out (by simp [h2])
    · exact out (by simp [h1, h3, h4])
  | [a, b, c] =>
    walk_at "dl"
    refine cond_dec (fun _ => ?_) fun h => absurd (show (3 : Int) = 3 from rfl) h
    have hw : wordsOk [a, b, c] = word3 a b c := rfl
    have hn : isName (.str b) = nameOk b := rfl
    rw [hw] at hq no
    rw [hn]
    unfold word3 at hq no
    have out : ((decide (a = Str.ofString "came") || decide (a = Str.ofString "begins")) && (nameOk b && isWish (.str c))) = false → t_read_row_2 A (bodyE Q X) [some (.str z), some (.lst [.str a, .str b, .str c])] M := fun e => by
      unfold t_read_row_2
      walk_at "dl"
      refine cond_dec (fun h => absurd h (by show ¬ (3 : Int) = 2; decide)) fun _ => ?_
      unfold t_read_row_3
      walk_at "dl"
      exact no e
    refine cond_dec (fun h1 => cond_of (fun h2 => cond_of (fun h5 => ?_) fun h5 => ?_) fun h2 => ?_) fun h1 => cond_dec (fun h3 => cond_of (fun h2 => cond_of (fun h5 => ?_) fun h5 => ?_) fun h2 => ?_) fun h3 => ?_
    · exact retD_of (hq (by simp [h1, h2, h5]))
    · exact out (by simp [h2, h5])
    · exact out (by simp [h2])
    · exact retD_of (hq (by simp [h3, h2, h5]))
    · exact out (by simp [h2, h5])
    · exact out (by simp [h2])
    · exact out (by simp [h1, h3])
  | a :: b :: c :: d :: r =>
    walk_at "dl"
    have hlen : ((D.str a :: D.str b :: D.str c :: D.str d :: List.map D.str r).length : Int) = (r.length : Int) + 4 := by
      simp only [List.length_cons, List.length_map]
      omega
    refine cond_dec (fun h => absurd h (by omega)) fun _ => ?_
    unfold t_read_row_2
    walk_at "dl"
    refine cond_dec (fun h => absurd h (by omega)) fun _ => ?_
    unfold t_read_row_3
    walk_at "dl"
    exact no rfl
-- SIMP m_read_row

local macro_rules | `(tactic| walk_at "dl") => `(tactic| try simp -implicitDefEqProofs only [DL.dNext, DL.dSeq, DL.dExpr, DL.dRet, DL.dIfS, DL.dSet, DL.dCont, DL.dRaise, DL.dFor, DL.dgName, DL.dgPair, DL.dTry, DL.dFn, DL.dMth, DL.dMk, DL.dFld, DL.dFldS, DL.dPut, DL.dVar, DL.slot, DL.dC, DL.dOp, DL.dUn, DL.oSub, DL.oMul, DL.oDiv, DL.oMod, DL.oPow, DL.oLt, DL.oLe, DL.oGt, DL.oGe, DL.oEq, DL.oNe, DL.oIn, DL.oNotIn, DL.dB, DL.dIsN, DL.dChain, DL.dAnd, DL.dOr, DL.dNot, DL.dAndV, DL.dOrV, DL.dNotV, DL.dIf, DL.dNil, DL.dCons, DL.few, DL.dLst, DL.dTup, DL.dLstM, DL.dFrz, DL.dPairs, DL.dDisp, DL.dDic0, DL.dSl, DL.dNoPart, DL.dCall, DL.dMet0L, DL.dMet, DL.dItems, DL.dRange1, DL.dEnum, DL.dLcM, DL.dwipe, DL.startD, DL.dNever, DL.el_some, DL.elL_lst, DL.elD_dic, DL.elI_ins, DL.res_non, DL.res_bl, DL.res_int, DL.res_str, DL.res_lst, DL.res_tupE, DL.res_dic, DL.res_scr, DL.res_ty, DL.oAdd_eq, DL.addR_int, DL.addR_str, DL.addR_lst, DL.addR_tup, DL.oAddM_eq, DL.addMR_lst, DL.oInt_eq, DL.intR_int, DL.oInt0_eq, DL.int0R_int, DL.oNeg_eq, DL.negR_int, DL.oEqN_eq, DL.eqR_some, DL.eqR_none, DL.eqS_non_non, DL.eqS_non_int, DL.eqS_non_bl, DL.eqS_non_str, DL.eqS_non_lst, DL.eqS_non_tup, DL.eqS_int_non, DL.eqS_int_int, DL.eqS_int_bl, DL.eqS_int_str, DL.eqS_int_lst, DL.eqS_int_tup, DL.eqS_bl_non, DL.eqS_bl_int, DL.eqS_bl_bl, DL.eqS_bl_str, DL.eqS_bl_lst, DL.eqS_bl_tup, DL.eqS_str_non, DL.eqS_str_int, DL.eqS_str_bl, DL.eqS_str_str, DL.eqS_str_lst, DL.eqS_str_tup, DL.eqS_lst_non, DL.eqS_lst_int, DL.eqS_lst_bl, DL.eqS_lst_str, DL.eqS_lst_lst, DL.eqS_lst_tup, DL.eqS_tup_non, DL.eqS_tup_int, DL.eqS_tup_bl, DL.eqS_tup_str, DL.eqS_tup_lst, DL.eqS_tup_tup, DL.eqS_obj_non, DL.eqS_non_obj, DL.eqS_obj_int, DL.eqS_int_obj, DL.eqS_obj_bl, DL.eqS_bl_obj, DL.eqS_obj_str, DL.eqS_str_obj, DL.eqS_obj_lst, DL.eqS_lst_obj, DL.eqS_obj_tup, DL.eqS_tup_obj, DL.eqS_obj_obj, DL.oInN_eq, DL.inR_lst, DL.inR_tup, DL.inR_str, DL.flatD_non, DL.flatD_bl, DL.flatD_int, DL.flatD_str, DL.asB_bl, DL.isN_non, DL.isN_bl, DL.isN_int, DL.isN_str, DL.isN_lst, DL.isN_tup, DL.isN_dic, DL.isN_scr, DL.isN_ty, DL.isN_obj, DL.frz_non, DL.frz_bl, DL.frz_int, DL.frz_str, DL.frz_lst, DL.frz_tup, DL.frz_dic, DL.frz_scr, DL.frz_ty, DL.oIx_eq, DL.ixR_lst, DL.ixR_tup, DL.ixR_scr, DL.ixR_str, DL.ixR_dic, DL.nth_0, DL.nth_1, DL.nth_2, DL.nth_3, DL.oSl_eq, DL.slR_lst, DL.slR_tup, DL.slR_str, DL.dPart_eq, DL.partR_int, DL.on1_cons, DL.on2_cons, DL.lenD_lst, DL.lenD_tup, DL.lenD_scr, DL.lenD_str, DL.intD_int, DL.intD_bl, DL.strD_int, DL.int2_int, DL.listM_lst, DL.listF_lst, DL.listM_tup, DL.listF_tup, DL.dictM_dic, DL.isiD_ty, DL.oAppend_obj, DL.oInsert_obj, DL.oPop_obj, DL.oPopAt_obj, DL.isLst_eq, DL.isLstR_lst, DL.isStr_str, DL.oSplit_str, DL.oJoin_str, DL.itemsOf_lst, DL.itemsOf_tup, DL.itemsOf_str, DL.rng1_int, DL.enumOf_lst, DL.two_tup, DL.insIs_obj, DL.getFld_obj, DL.setFld_obj, DL.putDic_obj, DL.isB_str_non, DL.isB_str_bl, DL.isB_str_int, DL.isB_str_str, DL.isB_str_lst, DL.isB_str_tup, DL.isB_str_dic, DL.isB_int_non, DL.isB_int_bl, DL.isB_int_int, DL.isB_int_str, DL.isB_int_lst, DL.isB_int_tup, DL.isB_int_dic, DL.isB_bool_non, DL.isB_bool_bl, DL.isB_bool_int, DL.isB_bool_str, DL.isB_bool_lst, DL.isB_bool_tup, DL.isB_bool_dic, DL.isB_list_non, DL.isB_list_bl, DL.isB_list_int, DL.isB_list_str, DL.isB_list_lst, DL.isB_list_tup, DL.isB_list_dic, DL.isB_tuple_non, DL.isB_tuple_bl, DL.isB_tuple_int, DL.isB_tuple_str, DL.isB_tuple_lst, DL.isB_tuple_tup, DL.isB_tuple_dic, Bool.cond_true, Bool.cond_false, L2.CDiv, Int.reduceLT, Int.reduceLE, true_and, and_true, cond_true, cond_false, List.map_cons, List.map_nil, List.set_cons_zero, List.set_cons_succ, List.set_nil, DL.cpow_109, DL.pow_109, DL.frz_set_lst, DL.frz_set_dic, Bool.not_true, Bool.not_false, DL.itemsOf_obj, DL.enumOf_obj, DL.all_still, okD_non, okD_bl, okD_int, okD_str, okD_lst, okD_tup, okD_dic, res_set_lst, Mem.set_same, Mem.set_set, DL.dLcXM, DL.lstOf_lst, m_l_cell_at, Int.reduceLE, m_is_wish, m_is_name, m_read_row])
/-! ### read(text): 0 text, 1 lines, 2 line -/
def t_read_3 (A : Adr) : DSt :=
  (dRet (dLcX (dSl (dVar 1) dNoPart (dPart (dUn oNeg (dC (.int 1))))) 2 (dFn (m_read_row A) (dCons (dVar 2) dNil))))
def t_read_2 (A : Adr) : DSt :=
  (dSeq (dIfS (dB (dOp oNe (dOp oIx (dVar 1) (dUn oNeg (dC (.int 1)))) (dC (.str "")))) (dRaise A.BadText) dNext)
  (t_read_3 A))
def t_read_1 (A : Adr) : DSt :=
  (dSeq (dSet 1 (dMet isStr oSplit (dVar 0) (dCons (dC (.str "\n")) dNil)))
  (t_read_2 A))
def t_read (A : Adr) : DSt :=
  (dSeq (dIfS (dNot (dB (dCall (on2 isiD) (dCons (dVar 0) (dCons (dC (.ty "str")) dNil))))) (dRaise A.BadText) dNext)
  (t_read_1 A))
local macro_rules | `(tactic| walk_at "un") => `(tactic| simp only [t_read_3, t_read_2, t_read_1, t_read])
def isTx : D → Bool
  | .str _ => true
  | _ => false
def lok (z : Str) : Bool := wordsOk (Txt.split z sp)
def rowL (z : Str) : D := .tup ((Txt.split z sp).map .str)
def fitL (ls : List Str) (l : Str) : Bool := decide (l = Str.ofString "") && ls.all lok
def m_read (A : Adr) : FDm := fun ds M Q X => ∃ d : D, ds = [d] ∧ ((okD d = true ∧ isTx d = false ∧ X A.BadText M) ∨ ∃ (z : Str) (ls : List Str) (l : Str), d = .str z ∧ z.length ≤ 10000 ∧ plain z ∧ Txt.split z nl = ls ++ [l] ∧ (fitL ls l = true → Q (.lst (ls.map rowL)) M) ∧ (fitL ls l = false → X A.BadText M))
theorem len_read (A : Adr) : ∀ ds M Q X, m_read A ds M Q X → ds.length = 1 := fun ds M Q X ⟨_, h, _⟩ => by subst h; rfl
/-- the comprehension, where each element gives a value or is refused -/
theorem lcX_two {D0 B : Addr} {i : Nat} {te : DE} {δ : DS} {X : Addr → Mem → Prop} {Q : Mem → Prop} {M0 : Mem} (hD : M0 D0 = none) (p : D → Bool) (f : D → D) : ∀ {xs acc : List D},
    (∀ x ∈ xs, ∀ M', M0.Sub M' → ∀ (Qd : QD) (Xd : XD), (p x = true → Qd (f x) M') → (p x = false → ∀ δ', Xd B δ' M') → te (δ.set i (some x)) M' Qd Xd) → (xs.all p = true → Q (M0.set D0 (.lst (acc ++ xs.map f)))) → (xs.all p = false → ∀ M', M0.Sub M' → X B M') →
    lcXL D0 i te δ X Q xs acc (M0.set D0 (.lst acc))
  | [], acc, _, hq, _ => by
    have h := hq rfl
    rw [List.map_nil, List.append_nil] at h
    exact h
  | x :: xs, acc, h, hq, hx => by
    rw [List.all_cons] at hq hx
    refine h x List.mem_cons_self _ (Mem.sub_set hD) _ _ (fun e => ⟨Mem.set_same, ?_⟩) fun e δ' => hx (by rw [e]; rfl) _ (Mem.sub_set hD)
    rw [Mem.set_set]
    refine lcX_two hD p f (fun y hy => h y (List.mem_cons_of_mem _ hy)) (fun e2 => ?_) fun e2 => hx (by rw [e, e2]; rfl)
    have := hq (by rw [e, e2]; rfl)
    rw [List.append_assoc]
    exact this
def lokD : D → Bool
  | .str z => lok z
  | _ => false
def rowLD : D → D
  | .str z => rowL z
  | _ => .non
theorem read_read (A : Adr) : ∀ ds M Q X, m_read A ds M Q X → t_read A (bodyE Q X) (startD 3 ds) M := by
  rintro ds M Q X ⟨d, rfl, ⟨hk, ht, h⟩ | ⟨z, ls, l, rfl, hl, hp, hsp, hq, hx⟩⟩
  · unfold t_read
    cases d with
    | scr b => cases hk
    | obj b => cases hk
    | ty b => cases hk
    | str b => cases ht
    | _ =>
      walk_at "dl"
      exact retX_of h
  · unfold t_read t_read_1
    walk_at "dl"
    have e0 : Txt.split z (Str.ofString "\n") = ls ++ [l] := hsp
    have sl : sizeLine = 16777216 := sizeLine_eq
    have w := PyProof.Rows.split_weight z nl (by rw [nl_len]; omega)
    have part : ∀ p ∈ Txt.split z nl, p.length ≤ 10001 ∧ strOk p = true := fun p hm => by
      have := le_sum hm
      exact ⟨by omega, split_parts (by rw [nl_len]; omega) (strOk_plain hp (by omega)) (by omega) hm⟩
    rw [e0]
    rw [hsp] at part w
    refine ⟨by decide +kernel, by omega, by omega, fun p hm => (part p hm).2, ?_⟩
    unfold t_read_2
    walk_at "dl"
    rw [List.map_append, List.map_singleton, nth_last, el_some]
    walk_at "dl"
    cases e1 : decide (l = Str.ofString "") with
    | false =>
      walk_at "dl"
      exact retX_of (hx (by unfold fitL; rw [e1]; rfl))
    | true =>
      walk_at "dl"
      unfold t_read_3
      walk_at "dl"
      rw [dcut_init]
      intro D0 hD
      have fit : fitL ls l = ls.all lok := by unfold fitL; rw [e1]; rfl
      have eall : (ls.map D.str).all lokD = ls.all lok := by rw [List.all_map]; rfl
      have emap : (ls.map D.str).map rowLD = ls.map rowL := by rw [List.map_map]; rfl
      refine lcX_two (B := A.BadText) hD lokD rowLD (fun x hm M1 hs Qd Xd q1 q2 => ?_) (fun e => ?_) fun e M1 hs => ⟨M, hs, hx (by rw [fit, ← eall]; exact e)⟩
      · obtain ⟨y, hy, rfl⟩ := List.mem_map.mp hm
        obtain ⟨p1, p2⟩ := part y (List.mem_append_left _ hy)
        walk_at "dl"
        exact ⟨by omega, p2, q1, fun e => q2 e _⟩
      · rw [frz_set_lst, Mem.del_set hD, emap, List.nil_append]
        exact retD_of (hq (by rw [fit, ← eall]; exact e))

/-! ### _law_kinds(_law_e): 0 _law_e, 1 _law_found, 2 _law_marks, 3 _law_k -/
def t_l_kinds_L1 (K : PySem.W.Frag) (A : Adr) (ea ec : Addr) : DSt :=
  (dIfS (dB (dOp oIx (dVar 2) (dVar 3))) (dExpr (dMet isLst oAppend (dVar 1) (dCons (dVar 3) dNil))) dNext)
def t_l_kinds_6 (K : PySem.W.Frag) (A : Adr) (ea ec : Addr) : DSt :=
  (dRet (dFrz (dVar 1)))
def t_l_kinds_5 (K : PySem.W.Frag) (A : Adr) (ea ec : Addr) : DSt :=
  (dSeq (dFor (dRange1 (dCons (dCall (on1 lenD) (dCons (dVar 2) dNil)) dNil)) (dgName 3) (t_l_kinds_L1 K A ea ec))
  (t_l_kinds_6 K A ea ec))
def t_l_kinds_4 (K : PySem.W.Frag) (A : Adr) (ea ec : Addr) : DSt :=
  (dSeq (dExpr (dMet isLst oAppend (dVar 2) (dCons (dCall (isED K ea ec) (dCons (dVar 0) (dCons (dC (.obj A.BadNumber)) dNil))) dNil)))
  (t_l_kinds_5 K A ea ec))
def t_l_kinds_3 (K : PySem.W.Frag) (A : Adr) (ea ec : Addr) : DSt :=
  (dSeq (dSet 2 (dOp oAddM (dVar 2) (dLst (dCons (dCall (isED K ea ec) (dCons (dVar 0) (dCons (dC (.obj A.Asked)) dNil))) (dCons (dCall (isED K ea ec) (dCons (dVar 0) (dCons (dC (.obj A.BadText)) dNil))) (dCons (dCall (isED K ea ec) (dCons (dVar 0) (dCons (dC (.obj A.BadJournal)) dNil))) dNil))))))
  (t_l_kinds_4 K A ea ec))
def t_l_kinds_2 (K : PySem.W.Frag) (A : Adr) (ea ec : Addr) : DSt :=
  (dSeq (dSet 2 (dOp oAddM (dVar 2) (dLst (dCons (dCall (isED K ea ec) (dCons (dVar 0) (dCons (dC (.obj A.Outside)) dNil))) (dCons (dCall (isED K ea ec) (dCons (dVar 0) (dCons (dC (.obj A.Inside)) dNil))) (dCons (dCall (isED K ea ec) (dCons (dVar 0) (dCons (dC (.obj A.Reads)) dNil))) (dCons (dCall (isED K ea ec) (dCons (dVar 0) (dCons (dC (.obj A.Writes)) dNil))) dNil)))))))
  (t_l_kinds_3 K A ea ec))
def t_l_kinds_1 (K : PySem.W.Frag) (A : Adr) (ea ec : Addr) : DSt :=
  (dSeq (dSet 2 (dLstM (dCons (dCall (isED K ea ec) (dCons (dVar 0) (dCons (dC (.obj A.BadName)) dNil))) (dCons (dCall (isED K ea ec) (dCons (dVar 0) (dCons (dC (.obj A.BadWish)) dNil))) (dCons (dCall (isED K ea ec) (dCons (dVar 0) (dCons (dC (.obj A.Known)) dNil))) (dCons (dCall (isED K ea ec) (dCons (dVar 0) (dCons (dC (.obj A.Stranger)) dNil))) dNil))))))
  (t_l_kinds_2 K A ea ec))
def t_l_kinds (K : PySem.W.Frag) (A : Adr) (ea ec : Addr) : DSt :=
  (dSeq (dSet 1 (dLstM dNil))
  (t_l_kinds_1 K A ea ec))
local macro_rules | `(tactic| walk_at "un") => `(tactic| simp only [t_l_kinds_6, t_l_kinds_5, t_l_kinds_4, t_l_kinds_3, t_l_kinds_2, t_l_kinds_1, t_l_kinds])
/-- the classes that the law asks for -/
def clsL (A : Adr) : List Addr := [A.BadName, A.BadWish, A.Known, A.Stranger, A.Outside, A.Inside, A.Reads, A.Writes, A.Asked, A.BadText, A.BadJournal, A.BadNumber]
structure KindOf (K : PySem.W.Frag) (A : Adr) (ec : Addr) (j : Nat) : Prop where
  c : ExcC K ec
  lt : j < 12
  k : ∀ i C, (clsL A)[i]? = some C → PySem.W.kitOne K (.ref ec) (.ref C) = some (decide (i = j))
  v : PySem.W.kitOne K (.ref ec) (.type "ValueError") = some true
def m_l_kinds (K : PySem.W.Frag) (A : Adr) (ea ec : Addr) : FDm := fun ds M Q _ => ∃ j : Nat, ds = [.obj ea] ∧ KindOf K A ec j ∧ Q (.lst [.int (j : Int)]) M
theorem len_l_kinds (K : PySem.W.Frag) (A : Adr) (ea ec : Addr) : ∀ ds M Q X, m_l_kinds K A ea ec ds M Q X → ds.length = 1 := fun ds M Q X ⟨_, h, _⟩ => by subst h; rfl
theorem read_l_kinds (K : PySem.W.Frag) (A : Adr) (ea ec : Addr) : ∀ ds M Q X, m_l_kinds K A ea ec ds M Q X → t_l_kinds K A ea ec (bodyE Q X) (startD 4 ds) M := by
  rintro ds M Q X ⟨j, rfl, hk, h⟩
  unfold t_l_kinds
  walk_at "dl"
  intro p1 hp1
  unfold t_l_kinds_1
  walk_at "dl"
  have ask : ∀ (i : Nat) (C : Addr) (M' : Mem) (Q' : QD), (clsL A)[i]? = some C → Q' (.bl (decide (i = j))) M' → isED K ea ec [.obj ea, .obj C] M' Q' := fun i C M' Q' hC q => by
    refine ⟨rfl, hk.c, ?_⟩
    rw [kitV_obj, hk.k i C hC]
    exact q
  refine ask 0 _ _ _ rfl (ask 1 _ _ _ rfl (ask 2 _ _ _ rfl (ask 3 _ _ _ rfl fun p2 hp2 => ?_)))
  unfold t_l_kinds_2
  walk_at "dl"
  refine ask 4 _ _ _ rfl (ask 5 _ _ _ rfl (ask 6 _ _ _ rfl (ask 7 _ _ _ rfl ?_)))
  rw [res_obj Mem.set_same]
  walk_at "dl"
  refine ⟨by rw [sizeLine_eq]; show 4 + 4 ≤ _; omega, fun p3 hp3 => ?_⟩
  have n31 : p3 ≠ p1 := fun e => by
    rw [e] at hp3
    by_cases e2 : p1 = p2
    · rw [e2, Mem.set_same] at hp3; cases hp3
    · rw [Mem.set_ne e2, Mem.set_same] at hp3; cases hp3
  have f1 : ((M.set p1 (.lst [])).set p2 (.lst [D.bl (decide (0 = j)), D.bl (decide (1 = j)), D.bl (decide (2 = j)), D.bl (decide (3 = j))])) p1 = some (.lst []) := by
    have n21 : p1 ≠ p2 := fun e => by rw [← e, Mem.set_same] at hp2; cases hp2
    rw [Mem.set_ne n21, Mem.set_same]
  have s2 : M.Sub ((M.set p1 (.lst [])).set p2 (.lst [D.bl (decide (0 = j)), D.bl (decide (1 = j)), D.bl (decide (2 = j)), D.bl (decide (3 = j))])) := fun b o e => Mem.sub_set hp2 b o (Mem.sub_set hp1 b o e)
  generalize (M.set p1 (.lst [])).set p2 (.lst [D.bl (decide (0 = j)), D.bl (decide (1 = j)), D.bl (decide (2 = j)), D.bl (decide (3 = j))]) = M2 at hp3 f1 s2 ⊢
  unfold t_l_kinds_3
  walk_at "dl"
  refine ask 8 _ _ _ rfl (ask 9 _ _ _ rfl (ask 10 _ _ _ rfl ?_))
  have f3 : (M2.set p3 (.lst ([D.bl (decide (0 = j)), D.bl (decide (1 = j)), D.bl (decide (2 = j)), D.bl (decide (3 = j))] ++ [D.bl (decide (4 = j)), D.bl (decide (5 = j)), D.bl (decide (6 = j)), D.bl (decide (7 = j))]))) p3 = some (.lst ([D.bl (decide (0 = j)), D.bl (decide (1 = j)), D.bl (decide (2 = j)), D.bl (decide (3 = j))] ++ [D.bl (decide (4 = j)), D.bl (decide (5 = j)), D.bl (decide (6 = j)), D.bl (decide (7 = j))])) := Mem.set_same
  have f31 : (M2.set p3 (.lst ([D.bl (decide (0 = j)), D.bl (decide (1 = j)), D.bl (decide (2 = j)), D.bl (decide (3 = j))] ++ [D.bl (decide (4 = j)), D.bl (decide (5 = j)), D.bl (decide (6 = j)), D.bl (decide (7 = j))]))) p1 = some (.lst []) := by rw [Mem.set_ne n31.symm]; exact f1
  have s3 : M.Sub (M2.set p3 (.lst ([D.bl (decide (0 = j)), D.bl (decide (1 = j)), D.bl (decide (2 = j)), D.bl (decide (3 = j))] ++ [D.bl (decide (4 = j)), D.bl (decide (5 = j)), D.bl (decide (6 = j)), D.bl (decide (7 = j))]))) := fun b o e => Mem.sub_set hp3 b o (s2 b o e)
  generalize M2.set p3 (.lst ([D.bl (decide (0 = j)), D.bl (decide (1 = j)), D.bl (decide (2 = j)), D.bl (decide (3 = j))] ++ [D.bl (decide (4 = j)), D.bl (decide (5 = j)), D.bl (decide (6 = j)), D.bl (decide (7 = j))])) = M3 at f3 f31 s3 ⊢
  rw [res_obj f3]
  walk_at "dl"
  refine ⟨by rw [sizeLine_eq]; show 8 + 3 ≤ _; omega, fun p4 hp4 => ?_⟩
  have n41 : p4 ≠ p1 := fun e => by rw [e, f31] at hp4; cases hp4
  have f41 : ∀ o, (M3.set p4 o) p1 = some (.lst []) := fun o => by rw [Mem.set_ne n41.symm]; exact f31
  unfold t_l_kinds_4
  walk_at "dl"
  refine ask 11 _ _ _ rfl ?_
  rw [Mem.set_same]
  refine ⟨by rw [sizeLine_eq]; show 11 < _; omega, ?_⟩
  rw [Mem.set_set]
  have e12 : ((([D.bl (decide (0 = j)), D.bl (decide (1 = j)), D.bl (decide (2 = j)), D.bl (decide (3 = j))] ++ [D.bl (decide (4 = j)), D.bl (decide (5 = j)), D.bl (decide (6 = j)), D.bl (decide (7 = j))]) ++ [D.bl (decide (8 = j)), D.bl (decide (9 = j)), D.bl (decide (10 = j))]) ++ [D.bl (decide (11 = j))] : List D) = (List.range 12).map fun i => D.bl (decide (i = j)) := rfl
  rw [e12]
  have g4 : (M3.set p4 (.lst ((List.range 12).map fun i => D.bl (decide (i = j))))) p4 = some (.lst ((List.range 12).map fun i => D.bl (decide (i = j)))) := Mem.set_same
  have g1 := f41 (.lst ((List.range 12).map fun i => D.bl (decide (i = j))))
  have s4 : M.Sub (M3.set p4 (.lst ((List.range 12).map fun i => D.bl (decide (i = j))))) := fun b o e => Mem.sub_set hp4 b o (s3 b o e)
  generalize M3.set p4 (.lst ((List.range 12).map fun i => D.bl (decide (i = j)))) = M4 at g4 g1 s4 ⊢
  unfold t_l_kinds_5
  walk_at "dl"
  rw [res_obj g4]
  walk_at "dl"
  have l12 : ((List.range 12).map fun i => D.bl (decide (i = j))).length = 12 := by rw [List.length_map, List.length_range]
  rw [l12]
  refine ⟨by decide, by decide, ?_⟩
  refine ⟨fun k δ M' => M.Sub M' ∧ M' p4 = some (.lst ((List.range 12).map fun i => D.bl (decide (i = j)))) ∧ M' p1 = some (.lst (if j < k then [.int (j : Int)] else [])) ∧ ∃ o : Option D, δ = [some (.obj ea), some (.obj p1), some (.obj p4), o], ⟨s4, g4, g1, _, rfl⟩, ?_, ?_⟩
  · rintro k x δ M' hx ⟨ms, m4, m1, o, rfl⟩
    refine ⟨trivial, ?_⟩
    obtain ⟨hk2, rfl⟩ := rangeD_get hx
    have hk12 : k < 12 := hk2
    have en : nth ((List.range 12).map fun i => D.bl (decide (i = j))) (k : Int) = some (.bl (decide (k = j))) := by
      rw [nth_nat, List.getElem?_map, List.getElem?_range hk12]
      rfl
    unfold t_l_kinds_L1
    walk_at "dl"
    rw [res_obj m4]
    walk_at "dl"
    rw [en, el_some]
    refine cond_dec (fun e => ?_) fun e => ?_
    · subst e
      rw [res_obj m1]
      walk_at "dl"
      rw [m1]
      walk_at "dl"
      rw [if_neg (Nat.lt_irrefl _)]
      refine ⟨by rw [sizeLine_eq]; show 0 < _; omega, fun b o e => ?_, ?_, ?_, _, rfl⟩
      · have nb : b ≠ p1 := fun z => by rw [z, hp1] at e; cases e
        rw [Mem.set_ne nb]
        exact ms b o e
      · rw [Mem.set_ne n41]; exact m4
      · rw [if_pos (Nat.lt_succ_self _)]; rfl
    · refine ⟨ms, m4, ?_, _, rfl⟩
      rw [m1]
      by_cases h1 : j < k
      · rw [if_pos h1, if_pos (by omega)]
      · rw [if_neg h1, if_neg (by omega)]
  · rintro δ M' ⟨ms, m4, m1, o, rfl⟩
    refine ⟨trivial, ?_⟩
    rw [rangeD_len] at m1
    have m1 : M' p1 = some (.lst (if j < 12 then [.int (j : Int)] else [])) := m1
    rw [if_pos hk.lt] at m1
    unfold t_l_kinds_6
    walk_at "dl"
    rw [frz_obj, res_obj m1, frzR_lst]
    exact ⟨M, fun b o e => by
      have nb : b ≠ p1 := fun z => by rw [z, hp1] at e; cases e
      rw [Mem.del_ne nb]
      exact ms b o e, h⟩

/-! ### _law_refused(_law_thing): 0 _law_thing, 1 _law_e -/
def t_l_refused_1 (K : PySem.W.Frag) (A : Adr) : DSt :=
  (dRet (dC (.bl false)))
def t_l_refused (K : PySem.W.Frag) (A : Adr) : DSt :=
  (dSeq (dTryH K (.ref A.BadText) (dExpr (dFn (m_read A) (dCons (dVar 0) dNil))) (fun ea1 ec1 => (dTryAs K (.ref A.RoomError) 1 (dExpr (dFn (m_read A) (dCons (dVar 0) dNil))) (fun ea ec => (dRet (dAndV (dOp oEq (dFn (m_l_kinds K A ea ec) (dCons (dVar 1) dNil)) (dLst (dCons (dC (.int 9)) dNil))) (dCall (isED K ea ec) (dCons (dVar 1) (dCons (dC (.ty "ValueError")) dNil)))))))))
  (t_l_refused_1 K A))
local macro_rules | `(tactic| walk_at "un") => `(tactic| simp only [t_l_refused_1, t_l_refused])
-- NEEDS_TXT K A T.e_BadText_BadText T.e_BadText_RoomError (kind_BadText T)
/-- what read refuses -/
def noText (d : D) : Prop := (okD d = true ∧ isTx d = false) ∨ ∃ (z : Str) (ls : List Str) (l : Str), d = .str z ∧ z.length ≤ 10000 ∧ plain z ∧ Txt.split z nl = ls ++ [l] ∧ fitL ls l = false
def m_l_refused (A : Adr) : FDm := fun ds M Q _ => ∃ d : D, ds = [d] ∧ noText d ∧ Q (.bl true) M
theorem len_l_refused (A : Adr) : ∀ ds M Q X, m_l_refused A ds M Q X → ds.length = 1 := fun ds M Q X ⟨_, h, _⟩ => by subst h; rfl
theorem no_read {A : Adr} {d : D} {M : Mem} {Q : QD} {X : Addr → Mem → Prop} (h : noText d) (hx : X A.BadText M) : m_read A [d] M Q X := by
  rcases h with ⟨h1, h2⟩ | ⟨z, ls, l, e, h1, h2, h3, h4⟩
  · exact ⟨d, rfl, .inl ⟨h1, h2, hx⟩⟩
  · exact ⟨d, rfl, .inr ⟨z, ls, l, e, h1, h2, h3, (fun e => by rw [h4] at e; cases e), fun _ => hx⟩⟩
theorem read_l_refused (K : PySem.W.Frag) (A : Adr) (h1 : PySem.W.exmOne K (.ref A.BadText) (.ref A.BadText) = some true) (h2 : PySem.W.exmOne K (.ref A.BadText) (.ref A.RoomError) = some true) (kf : KindOf K A A.BadText 9) :
    ∀ ds M Q X, m_l_refused A ds M Q X → t_l_refused K A (bodyE Q X) (startD 2 ds) M := by
  rintro ds M Q X ⟨d, rfl, hn, h⟩
  unfold t_l_refused dTryH dTryAs
  walk_at "dl"
  refine no_read hn ⟨h1, fun ea1 hea1 => no_read hn ⟨h2, fun ea hea => ⟨9, rfl, kf, ?_⟩⟩⟩
  walk_at "dl"
  refine ⟨rfl, rfl, ?_⟩
  have ee : D.eqv (.lst [.int ((9 : Nat) : Int)]) (.lst [.int 9]) = true := by rw [eqv_lst_cons, eqv_int]; rfl
  rw [ee]
  refine ⟨rfl, kf.c, ?_⟩
  rw [kitV_ty, kf.v, el_some]
  exact retD_of h

/-! ### _law_people(_law_cell, _law_many): 0 _law_cell, 1 _law_many, 2 _law_some, 3 _law_head, 4 _law_rest, 5 _law_k, 6 _law_way, 7 _law_left, 8 _law_right -/
def t_l_people_L1_1  : DSt :=
  (dSet 4 (dOp oDiv (dVar 4) (dC (.int 36))))
def t_l_people_L1  : DSt :=
  (dSeq (dSet 3 (dOp oAdd (dVar 3) (dOp oIx (dVar 2) (dOp oMod (dVar 4) (dC (.int 36))))))
  t_l_people_L1_1)
def t_l_people_10  : DSt :=
  (dRet (dLc (dRange1 (dCons (dVar 1) dNil)) 5 dYes (dOp oAdd (dVar 3) (dCall (on1 strD) (dCons (dVar 5) dNil)))))
def t_l_people_9  : DSt :=
  (dSeq (dSet 3 (dSl (dVar 3) dNoPart (dPart (dOp oSub (dC (.int 10)) (dCall (on1 intD) (dCons (dOp oGt (dVar 1) (dC (.int 99))) dNil))))))
  t_l_people_10)
def t_l_people_8  : DSt :=
  (dSeq (dIfS (dAnd (dB (dOp oLt (dVar 6) (dC (.int 4)))) (dB (dOp oLt (dVar 1) (dC (.int 37))))) (dSeq (dSet 7 (dSl (dVar 3) dNoPart (dPart (dOp oMod (dOp oDiv (dVar 0) (dC (.int 5))) (dOp oAdd (dCall (on1 lenD) (dCons (dVar 3) dNil)) (dC (.int 1)))))))
  (dSeq (dSet 8 (dSl (dVar 3) (dPart (dCall (on1 lenD) (dCons (dVar 7) dNil))) dNoPart))
  (dRet (dLc (dRange1 (dCons (dVar 1) dNil)) 5 dYes (dOp oAdd (dOp oAdd (dVar 7) (dOp oIx (dVar 2) (dOp oMod (dOp oAdd (dOp oDiv (dVar 0) (dC (.int 7))) (dOp oMul (dC (.int 7)) (dVar 5))) (dC (.int 36))))) (dVar 8)))))) dNext)
  t_l_people_9)
def t_l_people_7  : DSt :=
  (dSeq (dSet 3 (dSl (dVar 3) dNoPart (dPart (dOp oMod (dOp oDiv (dVar 0) (dC (.int 6))) (dC (.int 12))))))
  t_l_people_8)
def t_l_people_6  : DSt :=
  (dSeq (dIfS (dAnd (dB (dOp oEq (dVar 6) (dC (.int 1)))) (dB (dOp oLt (dVar 1) (dC (.int 13))))) (dRet (dLc (dRange1 (dCons (dVar 1) dNil)) 5 dYes (dSl (dVar 3) (dPart (dOp oSub (dC (.int 11)) (dVar 5))) dNoPart))) dNext)
  t_l_people_7)
def t_l_people_5  : DSt :=
  (dSeq (dIfS (dAnd (dB (dOp oEq (dVar 6) (dC (.int 0)))) (dB (dOp oLt (dVar 1) (dC (.int 13))))) (dRet (dLc (dRange1 (dCons (dVar 1) dNil)) 5 dYes (dSl (dVar 3) dNoPart (dPart (dOp oAdd (dVar 5) (dC (.int 1))))))) dNext)
  t_l_people_6)
def t_l_people_4  : DSt :=
  (dSeq (dSet 6 (dOp oMod (dVar 0) (dC (.int 6))))
  t_l_people_5)
def t_l_people_3  : DSt :=
  (dSeq (dFor (dRange1 (dCons (dC (.int 12)) dNil)) (dgName 5) t_l_people_L1)
  t_l_people_4)
def t_l_people_2  : DSt :=
  (dSeq (dSet 4 (dOp oDiv (dVar 0) (dC (.int 36))))
  t_l_people_3)
def t_l_people_1  : DSt :=
  (dSeq (dSet 3 (dC (.str "")))
  t_l_people_2)
def t_l_people  : DSt :=
  (dSeq (dSet 2 (dC (.str "abcdefghijklmnopqrstuvwxyz0123456789")))
  t_l_people_1)
local macro_rules | `(tactic| walk_at "un") => `(tactic| simp only [t_l_people_10, t_l_people_9, t_l_people_8, t_l_people_7, t_l_people_6, t_l_people_5, t_l_people_4, t_l_people_3, t_l_people_2, t_l_people_1, t_l_people])
def m_l_people : FDm := fun ds M Q _ => match ds with
  | [.int _, .int many] => 0 ≤ many ∧ many ≤ 99 ∧ ∀ names : List Str, names.length = many.toNat → (∀ z ∈ names, nameOk z = true) → Q (.lst (names.map .str)) M
  | _ => False
theorem len_l_people : ∀ ds M Q X, m_l_people ds M Q X → ds.length = 2 := fun ds M Q X h => by
  unfold m_l_people at h
  split at h <;> first | rfl | exact h.elim
theorem people_fin {n : Nat} {many : Int} {M : Mem} {Q : QD} (hn : n = many.toNat) (h : ∀ names : List Str, names.length = many.toNat → (∀ z ∈ names, nameOk z = true) → Q (.lst (names.map .str)) M) (g : Nat → Str) (hg : ∀ k, k < n → nameOk (g k) = true) :
    retD Q (.lst ((List.range n).map fun k => .str (g k))) M := by
  have := h ((List.range n).map g) (by rw [List.length_map, List.length_range]; exact hn) (fun z hz => by
    obtain ⟨k, hk, rfl⟩ := List.mem_map.mp hz
    exact hg k (List.mem_range.mp hk))
  rw [List.map_map] at this
  exact retD_of this
theorem read_l_people : ∀ ds M Q X, m_l_people ds M Q X → t_l_people (bodyE Q X) (startD 9 ds) M := by
  intro ds M Q X h
  unfold m_l_people at h
  split at h
  rotate_left
  · exact h.elim
  rename_i c many
  obtain ⟨h0, h99, h⟩ := h
  unfold t_l_people t_l_people_1 t_l_people_2 t_l_people_3
  walk_at "dl"
  have hr : (rangeD 0 (Int.toNat 12)).length = 12 := by decide
  have sl : sizeLine = 16777216 := sizeLine_eq
  refine ⟨fun k δ M' => M' = M ∧ ∃ (z : Str) (r : Int) (o : Option D), good z ∧ z.length = k ∧ δ = [some (.int c), some (.int many), some (.str (Str.ofString "abcdefghijklmnopqrstuvwxyz0123456789")), some (.str z), some (.int r), o, none, none, none], ⟨rfl, _, _, _, (by intro x hx; cases hx), (by decide +kernel), rfl⟩, ?_, ?_⟩
  · rintro k x δ M' hx ⟨rfl, z, r, o, hg, hz, rfl⟩
    refine ⟨trivial, ?_⟩
    have hk := (List.getElem?_eq_some_iff.mp hx).1
    rw [hr] at hk
    unfold t_l_people_L1 t_l_people_L1_1
    walk_at "dl"
    rw [show (Str.ofString "abcdefghijklmnopqrstuvwxyz0123456789").cps.toList = signsL from rfl, nth_sign]
    refine ⟨by show z.length + 1 ≤ sizeLine; omega, z ++ ⟨#[signAt r]⟩, _, _, good_app hg (good_one _), by rw [len_append, hz]; rfl, rfl⟩
  · rintro δ M' ⟨rfl, z, r, o, hg, hz, rfl⟩
    rw [hr] at hz
    refine ⟨trivial, ?_⟩
    unfold t_l_people_4 t_l_people_5
    walk_at "dl"
    have m6 := Int.emod_nonneg c (show (6 : Int) ≠ 0 by decide)
    have e6 : ∀ {A B : Prop} (w : Int), (c % 6 = w → many < 13 → A) → B → cond (decide (c % 6 = w)) (cond (decide (many < 13)) A B) B := fun {A B} w hA hB =>
      cond_dec (fun h1 => cond_dec (fun h2 => hA h1 h2) fun _ => hB) fun _ => hB
    refine e6 0 (fun _ h13 => ⟨by omega, by omega, lc_rangeD (fun k => .str (cutS z none (some ((k : Int) + 1)))) (fun k hk M1 hs Qd q => ?_) ?_⟩) ?_
    · walk_at "dl"
      exact q
    · refine people_fin rfl h _ fun k hk => ?_
      have := cut_hi_len z (k := (k : Int) + 1) (by omega)
      exact nameOk_of (by omega) (by omega) (good_cut hg _ _)
    unfold t_l_people_6
    walk_at "dl"
    refine e6 1 (fun _ h13 => ⟨by omega, by omega, lc_rangeD (fun k => .str (cutS z (some (11 - (k : Int))) none)) (fun k hk M1 hs Qd q => ?_) ?_⟩) ?_
    · walk_at "dl"
      exact q
    · refine people_fin rfl h _ fun k hk => ?_
      have := cut_lo_len z (k := 11 - (k : Int)) (by omega)
      exact nameOk_of (by omega) (by omega) (good_cut hg _ _)
    unfold t_l_people_7 t_l_people_8
    walk_at "dl"
    have p1 := Int.emod_nonneg (c / 6) (show (12 : Int) ≠ 0 by decide)
    have p2 := Int.emod_lt_of_pos (c / 6) (show (0 : Int) < 12 by decide)
    have hl1 := cut_hi_len z p1
    have hg1 := good_cut hg none (some (c / 6 % 12))
    generalize cutS z none (some (c / 6 % 12)) = y at hl1 hg1 ⊢
    have rest : t_l_people_9 (bodyE Q X) [some (.int c), some (.int many), some (.str (Str.ofString "abcdefghijklmnopqrstuvwxyz0123456789")), some (.str y), some (.int r), o, some (.int (c % 6)), none, none] M' := by
      unfold t_l_people_9 t_l_people_10
      walk_at "dl"
      have h9 : decide (99 < many) = false := decide_eq_false (by omega)
      rw [h9]
      have hl2 := cut_hi_len y (k := 10 - cond false 1 0) (by decide)
      have hg2 := good_cut hg1 none (some (10 - cond false 1 0))
      have e10 : (10 - cond false (1 : Int) 0) = 10 := by decide
      rw [e10] at hl2 hg2 ⊢
      generalize cutS y none (some 10) = x at hl2 hg2 ⊢
      have t10 : Int.toNat 10 = 10 := rfl
      rw [t10] at hl2
      refine ⟨by omega, by omega, lc_rangeD (fun k => .str (x ++ Str.ofString (toString (k : Int)))) (fun k hk M1 hs Qd q => ?_) ?_⟩
      · have hk2 := num_good (n := k) (by omega)
        walk_at "dl"
        refine ⟨by omega, by omega, ?_, q⟩
        show x.length + (Str.ofString (toString (k : Int))).length ≤ sizeLine
        omega
      · refine people_fin rfl h (fun k => x ++ Str.ofString (toString (k : Int))) fun k hk => ?_
        have hk2 := num_good (n := k) (by omega)
        refine nameOk_of ?_ ?_ (good_app hg2 hk2.1)
        · rw [len_append]; omega
        · rw [len_append]; omega
    refine cond_dec (fun h4 => cond_dec (fun h37 => ?_) fun _ => rest) fun _ => rest
    have q0 : (0 : Int) < (y.length : Int) + 1 := by omega
    have q1 := Int.emod_nonneg (c / 5) (show (y.length : Int) + 1 ≠ 0 by omega)
    have q2 := Int.emod_lt_of_pos (c / 5) q0
    have hl2 := cut_hi_len y q1
    have hg2 := good_cut hg1 none (some (c / 5 % ((y.length : Int) + 1)))
    generalize cutS y none (some (c / 5 % ((y.length : Int) + 1))) = u at hl2 hg2 ⊢
    have hl3 := cut_lo_len y (k := (u.length : Int)) (by omega)
    have hg3 := good_cut hg1 (some (u.length : Int)) none
    generalize cutS y (some (u.length : Int)) none = v at hl3 hg3 ⊢
    rw [Int.toNat_natCast] at hl3
    refine ⟨q0, by omega, by omega, lc_rangeD (fun k => .str (u ++ ⟨#[signAt (c / 7 + 7 * (k : Int))]⟩ ++ v)) (fun k hk M1 hs Qd q => ?_) ?_⟩
    · walk_at "dl"
      refine ⟨.inl ⟨by decide, by decide⟩, ?_⟩
      rw [show (Str.ofString "abcdefghijklmnopqrstuvwxyz0123456789").cps.toList = signsL from rfl, nth_sign]
      refine ⟨by show u.length + 1 ≤ sizeLine; omega, ?_, q⟩
      rw [len_append]
      show u.length + 1 + v.length ≤ sizeLine
      omega
    · refine people_fin rfl h (fun k => u ++ ⟨#[signAt (c / 7 + 7 * (k : Int))]⟩ ++ v) fun k hk => ?_
      have e1 : (u ++ (⟨#[signAt (c / 7 + 7 * (k : Int))]⟩ : Str) ++ v).length = u.length + 1 + v.length := by
        rw [len_append, len_append]; rfl
      refine nameOk_of ?_ ?_ (good_app (good_app hg2 (good_one _)) hg3)
      · omega
      · omega
-- SIMP m_l_people

local macro_rules | `(tactic| walk_at "dl") => `(tactic| try simp -implicitDefEqProofs only [DL.dNext, DL.dSeq, DL.dExpr, DL.dRet, DL.dIfS, DL.dSet, DL.dCont, DL.dRaise, DL.dFor, DL.dgName, DL.dgPair, DL.dTry, DL.dFn, DL.dMth, DL.dMk, DL.dFld, DL.dFldS, DL.dPut, DL.dVar, DL.slot, DL.dC, DL.dOp, DL.dUn, DL.oSub, DL.oMul, DL.oDiv, DL.oMod, DL.oPow, DL.oLt, DL.oLe, DL.oGt, DL.oGe, DL.oEq, DL.oNe, DL.oIn, DL.oNotIn, DL.dB, DL.dIsN, DL.dChain, DL.dAnd, DL.dOr, DL.dNot, DL.dAndV, DL.dOrV, DL.dNotV, DL.dIf, DL.dNil, DL.dCons, DL.few, DL.dLst, DL.dTup, DL.dLstM, DL.dFrz, DL.dPairs, DL.dDisp, DL.dDic0, DL.dSl, DL.dNoPart, DL.dCall, DL.dMet0L, DL.dMet, DL.dItems, DL.dRange1, DL.dEnum, DL.dLcM, DL.dwipe, DL.startD, DL.dNever, DL.el_some, DL.elL_lst, DL.elD_dic, DL.elI_ins, DL.res_non, DL.res_bl, DL.res_int, DL.res_str, DL.res_lst, DL.res_tupE, DL.res_dic, DL.res_scr, DL.res_ty, DL.oAdd_eq, DL.addR_int, DL.addR_str, DL.addR_lst, DL.addR_tup, DL.oAddM_eq, DL.addMR_lst, DL.oInt_eq, DL.intR_int, DL.oInt0_eq, DL.int0R_int, DL.oNeg_eq, DL.negR_int, DL.oEqN_eq, DL.eqR_some, DL.eqR_none, DL.eqS_non_non, DL.eqS_non_int, DL.eqS_non_bl, DL.eqS_non_str, DL.eqS_non_lst, DL.eqS_non_tup, DL.eqS_int_non, DL.eqS_int_int, DL.eqS_int_bl, DL.eqS_int_str, DL.eqS_int_lst, DL.eqS_int_tup, DL.eqS_bl_non, DL.eqS_bl_int, DL.eqS_bl_bl, DL.eqS_bl_str, DL.eqS_bl_lst, DL.eqS_bl_tup, DL.eqS_str_non, DL.eqS_str_int, DL.eqS_str_bl, DL.eqS_str_str, DL.eqS_str_lst, DL.eqS_str_tup, DL.eqS_lst_non, DL.eqS_lst_int, DL.eqS_lst_bl, DL.eqS_lst_str, DL.eqS_lst_lst, DL.eqS_lst_tup, DL.eqS_tup_non, DL.eqS_tup_int, DL.eqS_tup_bl, DL.eqS_tup_str, DL.eqS_tup_lst, DL.eqS_tup_tup, DL.eqS_obj_non, DL.eqS_non_obj, DL.eqS_obj_int, DL.eqS_int_obj, DL.eqS_obj_bl, DL.eqS_bl_obj, DL.eqS_obj_str, DL.eqS_str_obj, DL.eqS_obj_lst, DL.eqS_lst_obj, DL.eqS_obj_tup, DL.eqS_tup_obj, DL.eqS_obj_obj, DL.oInN_eq, DL.inR_lst, DL.inR_tup, DL.inR_str, DL.flatD_non, DL.flatD_bl, DL.flatD_int, DL.flatD_str, DL.asB_bl, DL.isN_non, DL.isN_bl, DL.isN_int, DL.isN_str, DL.isN_lst, DL.isN_tup, DL.isN_dic, DL.isN_scr, DL.isN_ty, DL.isN_obj, DL.frz_non, DL.frz_bl, DL.frz_int, DL.frz_str, DL.frz_lst, DL.frz_tup, DL.frz_dic, DL.frz_scr, DL.frz_ty, DL.oIx_eq, DL.ixR_lst, DL.ixR_tup, DL.ixR_scr, DL.ixR_str, DL.ixR_dic, DL.nth_0, DL.nth_1, DL.nth_2, DL.nth_3, DL.oSl_eq, DL.slR_lst, DL.slR_tup, DL.slR_str, DL.dPart_eq, DL.partR_int, DL.on1_cons, DL.on2_cons, DL.lenD_lst, DL.lenD_tup, DL.lenD_scr, DL.lenD_str, DL.intD_int, DL.intD_bl, DL.strD_int, DL.int2_int, DL.listM_lst, DL.listF_lst, DL.listM_tup, DL.listF_tup, DL.dictM_dic, DL.isiD_ty, DL.oAppend_obj, DL.oInsert_obj, DL.oPop_obj, DL.oPopAt_obj, DL.isLst_eq, DL.isLstR_lst, DL.isStr_str, DL.oSplit_str, DL.oJoin_str, DL.itemsOf_lst, DL.itemsOf_tup, DL.itemsOf_str, DL.rng1_int, DL.enumOf_lst, DL.two_tup, DL.insIs_obj, DL.getFld_obj, DL.setFld_obj, DL.putDic_obj, DL.isB_str_non, DL.isB_str_bl, DL.isB_str_int, DL.isB_str_str, DL.isB_str_lst, DL.isB_str_tup, DL.isB_str_dic, DL.isB_int_non, DL.isB_int_bl, DL.isB_int_int, DL.isB_int_str, DL.isB_int_lst, DL.isB_int_tup, DL.isB_int_dic, DL.isB_bool_non, DL.isB_bool_bl, DL.isB_bool_int, DL.isB_bool_str, DL.isB_bool_lst, DL.isB_bool_tup, DL.isB_bool_dic, DL.isB_list_non, DL.isB_list_bl, DL.isB_list_int, DL.isB_list_str, DL.isB_list_lst, DL.isB_list_tup, DL.isB_list_dic, DL.isB_tuple_non, DL.isB_tuple_bl, DL.isB_tuple_int, DL.isB_tuple_str, DL.isB_tuple_lst, DL.isB_tuple_tup, DL.isB_tuple_dic, Bool.cond_true, Bool.cond_false, L2.CDiv, Int.reduceLT, Int.reduceLE, true_and, and_true, cond_true, cond_false, List.map_cons, List.map_nil, List.set_cons_zero, List.set_cons_succ, List.set_nil, DL.cpow_109, DL.pow_109, DL.frz_set_lst, DL.frz_set_dic, Bool.not_true, Bool.not_false, DL.itemsOf_obj, DL.enumOf_obj, DL.all_still, okD_non, okD_bl, okD_int, okD_str, okD_lst, okD_tup, okD_dic, res_set_lst, Mem.set_same, Mem.set_set, DL.dLcXM, DL.lstOf_lst, m_l_cell_at, Int.reduceLE, m_is_wish, m_is_name, m_read_row, m_l_people])
/-! ### _law_wish_by(_law_cell): 0 _law_cell -/
def t_l_wish_by_1  : DSt :=
  (dRet (dC (.str "read")))
def t_l_wish_by  : DSt :=
  (dSeq (dIfS (dB (dOp oEq (dOp oMod (dVar 0) (dC (.int 3))) (dC (.int 0)))) (dRet (dC (.str "write"))) dNext)
  t_l_wish_by_1)
local macro_rules | `(tactic| walk_at "un") => `(tactic| simp only [t_l_wish_by_1, t_l_wish_by])
def m_l_wish_by : FDm := fun ds M Q _ => match ds with
  | [.int c] => Q (.str (wishS (!decide (c % 3 = 0)))) M
  | _ => False
theorem len_l_wish_by : ∀ ds M Q X, m_l_wish_by ds M Q X → ds.length = 1 := fun ds M Q X h => by
  unfold m_l_wish_by at h
  split at h <;> first | rfl | exact h.elim
theorem read_l_wish_by : ∀ ds M Q X, m_l_wish_by ds M Q X → t_l_wish_by (bodyE Q X) (startD 1 ds) M := by
  intro ds M Q X h
  unfold m_l_wish_by at h
  split at h
  rotate_left
  · exact h.elim
  rename_i c
  walk_at "un"
  walk_at "dl"
  refine cond_dec (fun e => ?_) fun e => ?_
  · rw [decide_eq_true e, Bool.not_true, wishS_f] at h
    exact retD_of h
  · rw [decide_eq_false e, Bool.not_false, wishS_t] at h
    exact retD_of h
-- SIMP m_l_wish_by

local macro_rules | `(tactic| walk_at "dl") => `(tactic| try simp -implicitDefEqProofs only [DL.dNext, DL.dSeq, DL.dExpr, DL.dRet, DL.dIfS, DL.dSet, DL.dCont, DL.dRaise, DL.dFor, DL.dgName, DL.dgPair, DL.dTry, DL.dFn, DL.dMth, DL.dMk, DL.dFld, DL.dFldS, DL.dPut, DL.dVar, DL.slot, DL.dC, DL.dOp, DL.dUn, DL.oSub, DL.oMul, DL.oDiv, DL.oMod, DL.oPow, DL.oLt, DL.oLe, DL.oGt, DL.oGe, DL.oEq, DL.oNe, DL.oIn, DL.oNotIn, DL.dB, DL.dIsN, DL.dChain, DL.dAnd, DL.dOr, DL.dNot, DL.dAndV, DL.dOrV, DL.dNotV, DL.dIf, DL.dNil, DL.dCons, DL.few, DL.dLst, DL.dTup, DL.dLstM, DL.dFrz, DL.dPairs, DL.dDisp, DL.dDic0, DL.dSl, DL.dNoPart, DL.dCall, DL.dMet0L, DL.dMet, DL.dItems, DL.dRange1, DL.dEnum, DL.dLcM, DL.dwipe, DL.startD, DL.dNever, DL.el_some, DL.elL_lst, DL.elD_dic, DL.elI_ins, DL.res_non, DL.res_bl, DL.res_int, DL.res_str, DL.res_lst, DL.res_tupE, DL.res_dic, DL.res_scr, DL.res_ty, DL.oAdd_eq, DL.addR_int, DL.addR_str, DL.addR_lst, DL.addR_tup, DL.oAddM_eq, DL.addMR_lst, DL.oInt_eq, DL.intR_int, DL.oInt0_eq, DL.int0R_int, DL.oNeg_eq, DL.negR_int, DL.oEqN_eq, DL.eqR_some, DL.eqR_none, DL.eqS_non_non, DL.eqS_non_int, DL.eqS_non_bl, DL.eqS_non_str, DL.eqS_non_lst, DL.eqS_non_tup, DL.eqS_int_non, DL.eqS_int_int, DL.eqS_int_bl, DL.eqS_int_str, DL.eqS_int_lst, DL.eqS_int_tup, DL.eqS_bl_non, DL.eqS_bl_int, DL.eqS_bl_bl, DL.eqS_bl_str, DL.eqS_bl_lst, DL.eqS_bl_tup, DL.eqS_str_non, DL.eqS_str_int, DL.eqS_str_bl, DL.eqS_str_str, DL.eqS_str_lst, DL.eqS_str_tup, DL.eqS_lst_non, DL.eqS_lst_int, DL.eqS_lst_bl, DL.eqS_lst_str, DL.eqS_lst_lst, DL.eqS_lst_tup, DL.eqS_tup_non, DL.eqS_tup_int, DL.eqS_tup_bl, DL.eqS_tup_str, DL.eqS_tup_lst, DL.eqS_tup_tup, DL.eqS_obj_non, DL.eqS_non_obj, DL.eqS_obj_int, DL.eqS_int_obj, DL.eqS_obj_bl, DL.eqS_bl_obj, DL.eqS_obj_str, DL.eqS_str_obj, DL.eqS_obj_lst, DL.eqS_lst_obj, DL.eqS_obj_tup, DL.eqS_tup_obj, DL.eqS_obj_obj, DL.oInN_eq, DL.inR_lst, DL.inR_tup, DL.inR_str, DL.flatD_non, DL.flatD_bl, DL.flatD_int, DL.flatD_str, DL.asB_bl, DL.isN_non, DL.isN_bl, DL.isN_int, DL.isN_str, DL.isN_lst, DL.isN_tup, DL.isN_dic, DL.isN_scr, DL.isN_ty, DL.isN_obj, DL.frz_non, DL.frz_bl, DL.frz_int, DL.frz_str, DL.frz_lst, DL.frz_tup, DL.frz_dic, DL.frz_scr, DL.frz_ty, DL.oIx_eq, DL.ixR_lst, DL.ixR_tup, DL.ixR_scr, DL.ixR_str, DL.ixR_dic, DL.nth_0, DL.nth_1, DL.nth_2, DL.nth_3, DL.oSl_eq, DL.slR_lst, DL.slR_tup, DL.slR_str, DL.dPart_eq, DL.partR_int, DL.on1_cons, DL.on2_cons, DL.lenD_lst, DL.lenD_tup, DL.lenD_scr, DL.lenD_str, DL.intD_int, DL.intD_bl, DL.strD_int, DL.int2_int, DL.listM_lst, DL.listF_lst, DL.listM_tup, DL.listF_tup, DL.dictM_dic, DL.isiD_ty, DL.oAppend_obj, DL.oInsert_obj, DL.oPop_obj, DL.oPopAt_obj, DL.isLst_eq, DL.isLstR_lst, DL.isStr_str, DL.oSplit_str, DL.oJoin_str, DL.itemsOf_lst, DL.itemsOf_tup, DL.itemsOf_str, DL.rng1_int, DL.enumOf_lst, DL.two_tup, DL.insIs_obj, DL.getFld_obj, DL.setFld_obj, DL.putDic_obj, DL.isB_str_non, DL.isB_str_bl, DL.isB_str_int, DL.isB_str_str, DL.isB_str_lst, DL.isB_str_tup, DL.isB_str_dic, DL.isB_int_non, DL.isB_int_bl, DL.isB_int_int, DL.isB_int_str, DL.isB_int_lst, DL.isB_int_tup, DL.isB_int_dic, DL.isB_bool_non, DL.isB_bool_bl, DL.isB_bool_int, DL.isB_bool_str, DL.isB_bool_lst, DL.isB_bool_tup, DL.isB_bool_dic, DL.isB_list_non, DL.isB_list_bl, DL.isB_list_int, DL.isB_list_str, DL.isB_list_lst, DL.isB_list_tup, DL.isB_list_dic, DL.isB_tuple_non, DL.isB_tuple_bl, DL.isB_tuple_int, DL.isB_tuple_str, DL.isB_tuple_lst, DL.isB_tuple_tup, DL.isB_tuple_dic, Bool.cond_true, Bool.cond_false, L2.CDiv, Int.reduceLT, Int.reduceLE, true_and, and_true, cond_true, cond_false, List.map_cons, List.map_nil, List.set_cons_zero, List.set_cons_succ, List.set_nil, DL.cpow_109, DL.pow_109, DL.frz_set_lst, DL.frz_set_dic, Bool.not_true, Bool.not_false, DL.itemsOf_obj, DL.enumOf_obj, DL.all_still, okD_non, okD_bl, okD_int, okD_str, okD_lst, okD_tup, okD_dic, res_set_lst, Mem.set_same, Mem.set_set, DL.dLcXM, DL.lstOf_lst, m_l_cell_at, Int.reduceLE, m_is_wish, m_is_name, m_read_row, m_l_people, m_l_wish_by])
/-! ### _law_line_by(_law_cell, _law_people_here): 0 _law_cell, 1 _law_people_here, 2 _law_who, 3 _law_word -/
def t_l_line_by_3  : DSt :=
  (dRet (dOp oAdd (dOp oAdd (dVar 3) (dC (.str " "))) (dVar 2)))
def t_l_line_by_2  : DSt :=
  (dSeq (dIfS (dB (dOp oLt (dOp oMod (dVar 0) (dC (.int 5))) (dC (.int 2)))) (dRet (dOp oAdd (dOp oAdd (dOp oAdd (dOp oAdd (dVar 3) (dC (.str " "))) (dVar 2)) (dC (.str " "))) (dFn m_l_wish_by (dCons (dOp oDiv (dVar 0) (dC (.int 25))) dNil)))) dNext)
  t_l_line_by_3)
def t_l_line_by_1  : DSt :=
  (dSeq (dSet 3 (dOp oIx (dLst (dCons (dC (.str "came")) (dCons (dC (.str "begins")) (dCons (dC (.str "left")) (dCons (dC (.str "asked")) (dCons (dC (.str "eased")) dNil)))))) (dOp oMod (dVar 0) (dC (.int 5)))))
  t_l_line_by_2)
def t_l_line_by  : DSt :=
  (dSeq (dSet 2 (dOp oIx (dVar 1) (dOp oMod (dOp oDiv (dVar 0) (dC (.int 5))) (dC (.int 5)))))
  t_l_line_by_1)
local macro_rules | `(tactic| walk_at "un") => `(tactic| simp only [t_l_line_by_3, t_l_line_by_2, t_l_line_by_1, t_l_line_by])
def whoBy (c : Int) (names : List Str) : Str := (names[(c / 5 % 5).toNat]?).getD (Str.ofString "")
def wordBy (c : Int) : Str := (rowWords[(c % 5).toNat]?).getD (Str.ofString "")
def lineBy (c : Int) (names : List Str) : Str := cond (decide (c % 5 < 2)) (wordBy c ++ sp ++ whoBy c names ++ sp ++ wishS (!decide (c / 25 % 3 = 0))) (wordBy c ++ sp ++ whoBy c names)
theorem who_ok {c : Int} {names : List Str} (hn : names.length = 5) (hz : ∀ z ∈ names, nameOk z = true) : nameOk (whoBy c names) = true ∧ nth (names.map D.str) (c / 5 % 5) = some (.str (whoBy c names)) := by
  have m0 := Int.emod_nonneg (c / 5) (show (5 : Int) ≠ 0 by decide)
  have m1 := Int.emod_lt_of_pos (c / 5) (show (0 : Int) < 5 by decide)
  have hi : (c / 5 % 5).toNat < names.length := by omega
  unfold whoBy
  rw [List.getElem?_eq_getElem hi, Option.getD_some]
  refine ⟨hz _ (List.getElem_mem hi), ?_⟩
  rw [nth_toNat _ m0, List.getElem?_map, List.getElem?_eq_getElem hi]
  rfl
theorem word_ok (c : Int) : lineOk 6 (wordBy c) ∧ nth (rowWords.map D.str) (c % 5) = some (.str (wordBy c)) := by
  have m0 := Int.emod_nonneg c (show (5 : Int) ≠ 0 by decide)
  have m1 := Int.emod_lt_of_pos c (show (0 : Int) < 5 by decide)
  have hl : rowWords.length = 5 := rfl
  have hi : (c % 5).toNat < rowWords.length := by omega
  unfold wordBy
  rw [List.getElem?_eq_getElem hi, Option.getD_some]
  refine ⟨lineOk_word (List.getElem_mem hi), ?_⟩
  rw [nth_toNat _ m0, List.getElem?_map, List.getElem?_eq_getElem hi]
  rfl
theorem lineBy_ok {c : Int} {names : List Str} (hn : names.length = 5) (hz : ∀ z ∈ names, nameOk z = true) : lineOk 30 (lineBy c names) := by
  have h1 := lineOk_name (who_ok (c := c) hn hz).1
  have h2 := (word_ok c).1
  unfold lineBy
  cases decide (c % 5 < 2) with
  | true => exact lineOk_up (lineOk_app (lineOk_app (lineOk_app (lineOk_app h2 lineOk_sp) h1) lineOk_sp) (lineOk_wish _)) (by decide)
  | false => exact lineOk_up (lineOk_app (lineOk_app h2 lineOk_sp) h1) (by decide)
def m_l_line_by : FDm := fun ds M Q _ => ∃ (c : Int) (names : List Str), ds = [.int c, .lst (names.map .str)] ∧ names.length = 5 ∧ (∀ z ∈ names, nameOk z = true) ∧ Q (.str (lineBy c names)) M
theorem len_l_line_by : ∀ ds M Q X, m_l_line_by ds M Q X → ds.length = 2 := fun ds M Q X ⟨_, _, h, _⟩ => by subst h; rfl
theorem read_l_line_by : ∀ ds M Q X, m_l_line_by ds M Q X → t_l_line_by (bodyE Q X) (startD 4 ds) M := by
  rintro ds M Q X ⟨c, names, rfl, hn, hz, h⟩
  obtain ⟨w1, w2⟩ := who_ok (c := c) hn hz
  obtain ⟨v1, v2⟩ := word_ok c
  have l1 := (lineOk_name w1).2.2
  have l2 := v1.2.2
  have l3 : ∀ b, (wishS b).length ≤ 5 := fun b => (lineOk_wish b).2.2
  unfold lineBy at h
  unfold t_l_line_by
  walk_at "dl"
  rw [w2, el_some]
  unfold t_l_line_by_1
  walk_at "dl"
  show el (nth (rowWords.map D.str) (c % 5)) _
  rw [v2, el_some]
  unfold t_l_line_by_2
  walk_at "dl"
  rw [show Str.ofString " " = sp from rfl]
  have s1 := sp_len
  have sz : sizeLine = 16777216 := sizeLine_eq
  refine cond_dec (fun e => ?_) fun e => ?_
  · rw [decide_eq_true e, cond_true] at h
    have l3 := l3 (!decide (c / 25 % 3 = 0))
    simp only [len_append, s1]
    exact ⟨by omega, by omega, by omega, by omega, retD_of h⟩
  · rw [decide_eq_false e, cond_false] at h
    unfold t_l_line_by_3
    walk_at "dl"
    rw [show Str.ofString " " = sp from rfl]
    simp only [len_append, s1]
    exact ⟨by omega, by omega, retD_of h⟩

/-! ### _law_odd_by(_law_cell, _law_more, _law_right): 0 _law_cell, 1 _law_more, 2 _law_right, 3 _law_some, 4 _law_place, 5 _law_signs, 6 _law_sign -/
def t_l_odd_by_12  : DSt :=
  (dRet (dOp oAdd (dOp oAdd (dSl (dVar 2) dNoPart (dPart (dVar 4))) (dVar 6)) (dSl (dVar 2) (dPart (dOp oAdd (dVar 4) (dC (.int 1)))) dNoPart)))
def t_l_odd_by_11  : DSt :=
  (dSeq (dIfS (dB (dOp oEq (dOp oMod (dVar 0) (dC (.int 30))) (dC (.int 28)))) (dRet (dOp oAdd (dSl (dVar 2) dNoPart (dPart (dVar 4))) (dSl (dVar 2) (dPart (dOp oAdd (dVar 4) (dC (.int 1)))) dNoPart))) dNext)
  t_l_odd_by_12)
def t_l_odd_by_10  : DSt :=
  (dSeq (dIfS (dB (dOp oEq (dOp oMod (dVar 0) (dC (.int 30))) (dC (.int 27)))) (dRet (dOp oAdd (dOp oAdd (dSl (dVar 2) dNoPart (dPart (dVar 4))) (dVar 6)) (dSl (dVar 2) (dPart (dVar 4)) dNoPart))) dNext)
  t_l_odd_by_11)
def t_l_odd_by_9  : DSt :=
  (dSeq (dSet 6 (dOp oIx (dVar 5) (dOp oMod (dOp oDiv (dVar 1) (dC (.int 50))) (dCall (on1 lenD) (dCons (dVar 5) dNil)))))
  t_l_odd_by_10)
def t_l_odd_by_8  : DSt :=
  (dSeq (dSet 5 (dC (.str " abcdefghijklmnopqrstuvwxyz0123456789-ABCZ.\t")))
  t_l_odd_by_9)
def t_l_odd_by_7  : DSt :=
  (dSeq (dSet 4 (dOp oMod (dVar 1) (dOp oAdd (dCall (on1 lenD) (dCons (dVar 2) dNil)) (dC (.int 1)))))
  t_l_odd_by_8)
def t_l_odd_by_6  : DSt :=
  (dSeq (dIfS (dB (dOp oLt (dOp oMod (dVar 0) (dC (.int 30))) (dC (.int 27)))) (dRet (dOp oIx (dVar 3) (dOp oMod (dVar 0) (dC (.int 30))))) dNext)
  t_l_odd_by_7)
def t_l_odd_by_5  : DSt :=
  (dSeq (dSet 3 (dOp oAdd (dVar 3) (dLst (dCons (dC (.str "came a reads")) (dCons (dC (.str "begins a")) (dCons (dC (.str "passed a")) dNil))))))
  t_l_odd_by_6)
def t_l_odd_by_4  : DSt :=
  (dSeq (dSet 3 (dOp oAdd (dVar 3) (dLst (dCons (dC (.str "eased a-b")) (dCons (dC (.str "came a Read")) (dCons (dC (.str "read a")) dNil))))))
  t_l_odd_by_5)
def t_l_odd_by_3  : DSt :=
  (dSeq (dSet 3 (dOp oAdd (dVar 3) (dLst (dCons (dC (.str "left A")) (dCons (dC (.str "left abcdefghijklm")) (dCons (dC (.str "left abcdefghijkl")) (dCons (dC (.str "asked\ta")) dNil)))))))
  t_l_odd_by_4)
def t_l_odd_by_2  : DSt :=
  (dSeq (dSet 3 (dOp oAdd (dVar 3) (dLst (dCons (dC (.str "came a read write")) (dCons (dC (.str "Left a")) dNil)))))
  t_l_odd_by_3)
def t_l_odd_by_1  : DSt :=
  (dSeq (dSet 3 (dOp oAdd (dVar 3) (dLst (dCons (dC (.str " left a")) (dCons (dC (.str "left a ")) (dCons (dC (.str "came a  read")) (dCons (dC (.str "came  a read")) (dCons (dC (.str "came a read ")) dNil))))))))
  t_l_odd_by_2)
def t_l_odd_by  : DSt :=
  (dSeq (dSet 3 (dLst (dCons (dC (.str "")) (dCons (dC (.str " ")) (dCons (dC (.str "came")) (dCons (dC (.str "came a")) (dCons (dC (.str "came a b")) (dCons (dC (.str "left")) (dCons (dC (.str "left a b")) (dCons (dC (.str "begin a read")) (dCons (dC (.str "comes a read")) (dCons (dC (.str "left  a")) dNil))))))))))))
  t_l_odd_by_1)
local macro_rules | `(tactic| walk_at "un") => `(tactic| simp only [t_l_odd_by_12, t_l_odd_by_11, t_l_odd_by_10, t_l_odd_by_9, t_l_odd_by_8, t_l_odd_by_7, t_l_odd_by_6, t_l_odd_by_5, t_l_odd_by_4, t_l_odd_by_3, t_l_odd_by_2, t_l_odd_by_1, t_l_odd_by])
def oddL : List Str := [Str.ofString "", Str.ofString " ", Str.ofString "came", Str.ofString "came a", Str.ofString "came a b", Str.ofString "left", Str.ofString "left a b", Str.ofString "begin a read", Str.ofString "comes a read", Str.ofString "left  a"] ++
  [Str.ofString " left a", Str.ofString "left a ", Str.ofString "came a  read", Str.ofString "came  a read", Str.ofString "came a read "] ++ [Str.ofString "came a read write", Str.ofString "Left a"] ++
  [Str.ofString "left A", Str.ofString "left abcdefghijklm", Str.ofString "left abcdefghijkl", Str.ofString "asked\ta"] ++ [Str.ofString "eased a-b", Str.ofString "came a Read", Str.ofString "read a"] ++
  [Str.ofString "came a reads", Str.ofString "begins a", Str.ofString "passed a"]
theorem odd_all : ∀ z ∈ oddL, lineB 20 z = true := by decide +kernel
def oddSigns : Str := Str.ofString " abcdefghijklmnopqrstuvwxyz0123456789-ABCZ.\t"
theorem odd_signs : ∀ c ∈ oddSigns.cps.toList, c < 256 ∧ ¬ c = 10 := by decide +kernel
def m_l_odd_by : FDm := fun ds M Q _ => ∃ (c more : Int) (right : Str), ds = [.int c, .int more, .str right] ∧ lineOk 30 right ∧ ∀ z, lineOk 61 z → Q (.str z) M
theorem len_l_odd_by : ∀ ds M Q X, m_l_odd_by ds M Q X → ds.length = 3 := fun ds M Q X ⟨_, _, _, h, _⟩ => by subst h; rfl
def strsA : List Str → DA
  | [] => dNil
  | z :: zs => dCons (dC (.str z)) (strsA zs)
theorem strsA_eq {δ : DS} {M : Mem} {X : XD} : ∀ (zs : List Str) (F : List D → Mem → Prop), strsA zs δ M F X = F (zs.map .str) M
  | [], _ => rfl
  | z :: zs, F => strsA_eq zs fun ds M2 => F (.str z :: ds) M2
theorem odd_set {E : DEnds} {t : DSt} {M : Mem} {d0 d1 d2 : Option D} (zs : List Str) (hf : few 99 (zs.map D.str)) (h : t E [d0, d1, d2, some (.lst (zs.map .str)), none, none, none] M) :
    dSeq (dSet 3 (dLst (strsA zs))) t E [d0, d1, d2, none, none, none, none] M := by
  show strsA zs _ M (fun ds M1 => few 99 ds ∧ t E [d0, d1, d2, some (.lst ds), none, none, none] M1) _
  rw [strsA_eq]
  exact ⟨hf, h⟩
theorem odd_add {E : DEnds} {t : DSt} {M : Mem} {d0 d1 d2 : Option D} (ys zs : List Str) (hl : ys.length + zs.length ≤ 100) (hf : few 99 (zs.map D.str)) (h : t E [d0, d1, d2, some (.lst ((ys ++ zs).map .str)), none, none, none] M) :
    dSeq (dSet 3 (dOp oAdd (dVar 3) (dLst (strsA zs)))) t E [d0, d1, d2, some (.lst (ys.map .str)), none, none, none] M := by
  show strsA zs _ M (fun ds M1 => few 99 ds ∧ ((ys.map D.str).length + ds.length ≤ sizeLine ∧ t E [d0, d1, d2, some (.lst (ys.map .str ++ ds)), none, none, none] M1)) _
  rw [strsA_eq, ← List.map_append, List.length_map, List.length_map]
  exact ⟨hf, by rw [sizeLine_eq]; omega, h⟩
theorem nth_strs {l : List Str} {n : Nat} {i : Int} (hl : l.length = n) (h0 : 0 ≤ i) (h1 : i < n) : ∃ z ∈ l, nth (l.map D.str) i = some (.str z) := by
  have hi : i.toNat < l.length := by omega
  rw [nth_toNat _ h0, List.getElem?_map, List.getElem?_eq_getElem hi]
  exact ⟨_, List.getElem_mem hi, rfl⟩
theorem read_l_odd_by : ∀ ds M Q X, m_l_odd_by ds M Q X → t_l_odd_by (bodyE Q X) (startD 7 ds) M := by
  rintro ds M Q X ⟨c, more, right, rfl, hr, h⟩
  have sz : sizeLine = 16777216 := sizeLine_eq
  unfold t_l_odd_by
  refine odd_set [Str.ofString "", Str.ofString " ", Str.ofString "came", Str.ofString "came a", Str.ofString "came a b", Str.ofString "left", Str.ofString "left a b", Str.ofString "begin a read", Str.ofString "comes a read", Str.ofString "left  a"] trivial ?_
  unfold t_l_odd_by_1
  refine odd_add _ [Str.ofString " left a", Str.ofString "left a ", Str.ofString "came a  read", Str.ofString "came  a read", Str.ofString "came a read "] (by decide) trivial ?_
  unfold t_l_odd_by_2
  refine odd_add _ [Str.ofString "came a read write", Str.ofString "Left a"] (by decide) trivial ?_
  unfold t_l_odd_by_3
  refine odd_add _ [Str.ofString "left A", Str.ofString "left abcdefghijklm", Str.ofString "left abcdefghijkl", Str.ofString "asked\ta"] (by decide) trivial ?_
  unfold t_l_odd_by_4
  refine odd_add _ [Str.ofString "eased a-b", Str.ofString "came a Read", Str.ofString "read a"] (by decide) trivial ?_
  unfold t_l_odd_by_5
  refine odd_add _ [Str.ofString "came a reads", Str.ofString "begins a", Str.ofString "passed a"] (by decide) trivial ?_
  show t_l_odd_by_6 _ [some (.int c), some (.int more), some (.str right), some (.lst (oddL.map .str)), none, none, none] M
  have ho : oddL.length = 27 := rfl
  have hall := odd_all
  generalize oddL = L at ho hall
  have m0 := Int.emod_nonneg c (show (30 : Int) ≠ 0 by decide)
  unfold t_l_odd_by_6
  walk_at "dl"
  refine cond_dec (fun e => ?_) fun e => ?_
  · obtain ⟨z, hz, ez⟩ := nth_strs ho m0 e
    rw [ez, el_some]
    exact retD_of (h z (lineOk_up (lineOk_of (hall z hz)) (by decide)))
  unfold t_l_odd_by_7
  walk_at "dl"
  have hr2 := hr.2.2
  have p0 := Int.emod_nonneg more (show ((right.length : Int) + 1) ≠ 0 by omega)
  refine ⟨by omega, ?_⟩
  generalize more % ((right.length : Int) + 1) = p at p0 ⊢
  unfold t_l_odd_by_8 t_l_odd_by_9
  walk_at "dl"
  show 0 < (oddSigns.length : Int) ∧ el (nth oddSigns.cps.toList (more / 50 % (oddSigns.length : Int))) _
  have hs := odd_signs
  have hl : oddSigns.length = 44 := by decide +kernel
  have hsl := str_len oddSigns
  rw [hl]
  have q0 := Int.emod_nonneg (more / 50) (show ((44 : Nat) : Int) ≠ 0 by decide)
  have q1 := Int.emod_lt_of_pos (more / 50) (show (0 : Int) < ((44 : Nat) : Int) by decide)
  obtain ⟨x, hx, ex⟩ : ∃ x ∈ oddSigns.cps.toList, nth oddSigns.cps.toList (more / 50 % ((44 : Nat) : Int)) = some x := by
    have hi : (more / 50 % ((44 : Nat) : Int)).toNat < oddSigns.cps.toList.length := by omega
    rw [nth_toNat _ q0, List.getElem?_eq_getElem hi]
    exact ⟨_, List.getElem_mem hi, rfl⟩
  rw [ex, el_some]
  have hx := hs x hx
  have one : lineOk 1 (⟨#[x]⟩ : Str) := ⟨fun c hc => by rw [List.mem_singleton.mp hc]; exact hx.1, fun hc => hx.2 (List.mem_singleton.mp hc).symm, Nat.le_refl _⟩
  have lo := lineOk_hi hr p0
  have hi := lineOk_lo hr p0
  have hi1 := lineOk_lo hr (k := p + 1) (by omega)
  have lo2 := lo.2.2
  have hi2 := hi.2.2
  have hi3 := hi1.2.2
  have one2 : (⟨#[x]⟩ : Str).length = 1 := rfl
  refine ⟨by decide, ?_⟩
  unfold t_l_odd_by_10
  walk_at "dl"
  have fin1 := retD_of (M := M) (h _ (lineOk_app (lineOk_app lo one) hi))
  have fin2 := retD_of (M := M) (h _ (lineOk_up (lineOk_app lo hi1) (by decide)))
  have fin3 := retD_of (M := M) (h _ (lineOk_app (lineOk_app lo one) hi1))
  refine cond_dec (fun e1 => ⟨by omega, by rw [len_append]; omega, fin1⟩) fun e1 => ?_
  unfold t_l_odd_by_11
  walk_at "dl"
  refine cond_dec (fun e2 => ⟨by omega, fin2⟩) fun e2 => ?_
  unfold t_l_odd_by_12
  walk_at "dl"
  exact ⟨by omega, by rw [len_append]; omega, fin3⟩

/-! ### _law_name(_law_thing): 0 _law_thing, 1 _law_some, 2 _law_sign -/
def t_l_name_2  : DSt :=
  (dRet (dOp oEq (dLc (dItems (dVar 0)) 2 (dB (dOp oNotIn (dVar 2) (dVar 1))) (dVar 2)) (dLst dNil)))
def t_l_name_1  : DSt :=
  (dSeq (dSet 1 (dC (.str "abcdefghijklmnopqrstuvwxyz0123456789")))
  t_l_name_2)
def t_l_name  : DSt :=
  (dSeq (dIfS (dOr (dNot (dB (dCall (on2 isiD) (dCons (dVar 0) (dCons (dC (.ty "str")) dNil))))) (dOr (dB (dOp oLt (dCall (on1 lenD) (dCons (dVar 0) dNil)) (dC (.int 1)))) (dB (dOp oGt (dCall (on1 lenD) (dCons (dVar 0) dNil)) (dC (.int 12)))))) (dRet (dC (.bl false))) dNext)
  t_l_name_1)
local macro_rules | `(tactic| walk_at "un") => `(tactic| simp only [t_l_name_2, t_l_name_1, t_l_name])
def m_l_name : FDm := fun ds M Q _ => match ds with
  | [d] => okD d = true ∧ Q (.bl (isName d)) M
  | _ => False
theorem len_l_name : ∀ ds M Q X, m_l_name ds M Q X → ds.length = 1 := fun ds M Q X h => by
  unfold m_l_name at h
  split at h <;> first | rfl | exact h.elim
theorem read_l_name : ∀ ds M Q X, m_l_name ds M Q X → t_l_name (bodyE Q X) (startD 3 ds) M := by
  intro ds M Q X h
  unfold m_l_name at h
  split at h
  rotate_left
  · exact h.elim
  rename_i d
  obtain ⟨hd, h⟩ := h
  walk_at "un"
  cases d with
  | str z =>
    walk_at "dl"
    have hn : isName (.str z) = nameOk z := rfl
    rw [hn] at h
    unfold nameOk at h
    refine cond_of (fun h1 => ?_) fun h1 => ?_
    · have h1' : ¬ 1 ≤ z.length := by
        have : ((z.length : Int) < 1) := by simpa using h1
        omega
      rw [decide_eq_false h1', Bool.false_and, Bool.false_and] at h
      exact retD_of h
    have h1' : 1 ≤ z.length := by
      have : ¬ ((z.length : Int) < 1) := by simpa using h1
      omega
    refine cond_of (fun h2 => ?_) fun h2 => ?_
    · have h2' : ¬ z.length ≤ 12 := by
        have : (12 < (z.length : Int)) := by simpa using h2
        omega
      rw [decide_eq_false h2', Bool.and_false, Bool.false_and] at h
      exact retD_of h
    have h2' : z.length ≤ 12 := by
      have : ¬ (12 < (z.length : Int)) := by simpa using h2
      omega
    rw [decide_eq_true h1', decide_eq_true h2', Bool.true_and, Bool.true_and] at h
    refine lc_pure (fun x => match x with | .str ⟨⟨[c]⟩⟩ => !decide (c ∈ signsL) | _ => false) (fun x => x) (fun x hx M' hs Qb q => ?_) (fun x hx hp M' hs Qd q => ?_) ?_
    · unfold signsD at hx
      obtain ⟨c, hc, rfl⟩ := List.mem_map.mp hx
      walk_at "dl"
      exact q
    · walk_at "dl"
      exact q
    · simp only [signsD, List.map_id', List.filter_map]
      walk_at "dl"
      refine ⟨by rw [flatN_lst]; exact flat_map _ _ (fun _ => flatN_str _ _) _, by rw [flatN_lst]; rfl, ?_⟩
      rw [eqv_nil]
      have e : List.isEmpty (List.map (fun c => D.str ⟨#[c]⟩) (List.filter ((fun x => match x with | .str ⟨⟨[c]⟩⟩ => !decide (c ∈ signsL) | _ => false) ∘ fun c => D.str ⟨#[c]⟩) z.cps.toList)) = z.cps.toList.all fun c => decide (c ∈ signsL) := by
        generalize z.cps.toList = l
        induction l with
        | nil => rfl
        | cons c l ih =>
          rw [List.all_cons, ← ih]
          by_cases hc : c ∈ signsL
          · rw [decide_eq_true hc, Bool.true_and, List.filter_cons_of_neg (by simp [hc])]
          · rw [decide_eq_false hc, Bool.false_and, List.filter_cons_of_pos (by simp [hc])]
            rfl
      rw [e]
      exact retD_of h
  | non => walk_at "dl"; exact retD_of h
  | bl b => walk_at "dl"; exact retD_of h
  | int b => walk_at "dl"; exact retD_of h
  | lst b => walk_at "dl"; exact retD_of h
  | tup b => walk_at "dl"; exact retD_of h
  | dic b => walk_at "dl"; exact retD_of h
  | scr b => cases hd
  | obj b => cases hd
  | ty b => cases hd
-- SIMP m_l_name

local macro_rules | `(tactic| walk_at "dl") => `(tactic| try simp -implicitDefEqProofs only [DL.dNext, DL.dSeq, DL.dExpr, DL.dRet, DL.dIfS, DL.dSet, DL.dCont, DL.dRaise, DL.dFor, DL.dgName, DL.dgPair, DL.dTry, DL.dFn, DL.dMth, DL.dMk, DL.dFld, DL.dFldS, DL.dPut, DL.dVar, DL.slot, DL.dC, DL.dOp, DL.dUn, DL.oSub, DL.oMul, DL.oDiv, DL.oMod, DL.oPow, DL.oLt, DL.oLe, DL.oGt, DL.oGe, DL.oEq, DL.oNe, DL.oIn, DL.oNotIn, DL.dB, DL.dIsN, DL.dChain, DL.dAnd, DL.dOr, DL.dNot, DL.dAndV, DL.dOrV, DL.dNotV, DL.dIf, DL.dNil, DL.dCons, DL.few, DL.dLst, DL.dTup, DL.dLstM, DL.dFrz, DL.dPairs, DL.dDisp, DL.dDic0, DL.dSl, DL.dNoPart, DL.dCall, DL.dMet0L, DL.dMet, DL.dItems, DL.dRange1, DL.dEnum, DL.dLcM, DL.dwipe, DL.startD, DL.dNever, DL.el_some, DL.elL_lst, DL.elD_dic, DL.elI_ins, DL.res_non, DL.res_bl, DL.res_int, DL.res_str, DL.res_lst, DL.res_tupE, DL.res_dic, DL.res_scr, DL.res_ty, DL.oAdd_eq, DL.addR_int, DL.addR_str, DL.addR_lst, DL.addR_tup, DL.oAddM_eq, DL.addMR_lst, DL.oInt_eq, DL.intR_int, DL.oInt0_eq, DL.int0R_int, DL.oNeg_eq, DL.negR_int, DL.oEqN_eq, DL.eqR_some, DL.eqR_none, DL.eqS_non_non, DL.eqS_non_int, DL.eqS_non_bl, DL.eqS_non_str, DL.eqS_non_lst, DL.eqS_non_tup, DL.eqS_int_non, DL.eqS_int_int, DL.eqS_int_bl, DL.eqS_int_str, DL.eqS_int_lst, DL.eqS_int_tup, DL.eqS_bl_non, DL.eqS_bl_int, DL.eqS_bl_bl, DL.eqS_bl_str, DL.eqS_bl_lst, DL.eqS_bl_tup, DL.eqS_str_non, DL.eqS_str_int, DL.eqS_str_bl, DL.eqS_str_str, DL.eqS_str_lst, DL.eqS_str_tup, DL.eqS_lst_non, DL.eqS_lst_int, DL.eqS_lst_bl, DL.eqS_lst_str, DL.eqS_lst_lst, DL.eqS_lst_tup, DL.eqS_tup_non, DL.eqS_tup_int, DL.eqS_tup_bl, DL.eqS_tup_str, DL.eqS_tup_lst, DL.eqS_tup_tup, DL.eqS_obj_non, DL.eqS_non_obj, DL.eqS_obj_int, DL.eqS_int_obj, DL.eqS_obj_bl, DL.eqS_bl_obj, DL.eqS_obj_str, DL.eqS_str_obj, DL.eqS_obj_lst, DL.eqS_lst_obj, DL.eqS_obj_tup, DL.eqS_tup_obj, DL.eqS_obj_obj, DL.oInN_eq, DL.inR_lst, DL.inR_tup, DL.inR_str, DL.flatD_non, DL.flatD_bl, DL.flatD_int, DL.flatD_str, DL.asB_bl, DL.isN_non, DL.isN_bl, DL.isN_int, DL.isN_str, DL.isN_lst, DL.isN_tup, DL.isN_dic, DL.isN_scr, DL.isN_ty, DL.isN_obj, DL.frz_non, DL.frz_bl, DL.frz_int, DL.frz_str, DL.frz_lst, DL.frz_tup, DL.frz_dic, DL.frz_scr, DL.frz_ty, DL.oIx_eq, DL.ixR_lst, DL.ixR_tup, DL.ixR_scr, DL.ixR_str, DL.ixR_dic, DL.nth_0, DL.nth_1, DL.nth_2, DL.nth_3, DL.oSl_eq, DL.slR_lst, DL.slR_tup, DL.slR_str, DL.dPart_eq, DL.partR_int, DL.on1_cons, DL.on2_cons, DL.lenD_lst, DL.lenD_tup, DL.lenD_scr, DL.lenD_str, DL.intD_int, DL.intD_bl, DL.strD_int, DL.int2_int, DL.listM_lst, DL.listF_lst, DL.listM_tup, DL.listF_tup, DL.dictM_dic, DL.isiD_ty, DL.oAppend_obj, DL.oInsert_obj, DL.oPop_obj, DL.oPopAt_obj, DL.isLst_eq, DL.isLstR_lst, DL.isStr_str, DL.oSplit_str, DL.oJoin_str, DL.itemsOf_lst, DL.itemsOf_tup, DL.itemsOf_str, DL.rng1_int, DL.enumOf_lst, DL.two_tup, DL.insIs_obj, DL.getFld_obj, DL.setFld_obj, DL.putDic_obj, DL.isB_str_non, DL.isB_str_bl, DL.isB_str_int, DL.isB_str_str, DL.isB_str_lst, DL.isB_str_tup, DL.isB_str_dic, DL.isB_int_non, DL.isB_int_bl, DL.isB_int_int, DL.isB_int_str, DL.isB_int_lst, DL.isB_int_tup, DL.isB_int_dic, DL.isB_bool_non, DL.isB_bool_bl, DL.isB_bool_int, DL.isB_bool_str, DL.isB_bool_lst, DL.isB_bool_tup, DL.isB_bool_dic, DL.isB_list_non, DL.isB_list_bl, DL.isB_list_int, DL.isB_list_str, DL.isB_list_lst, DL.isB_list_tup, DL.isB_list_dic, DL.isB_tuple_non, DL.isB_tuple_bl, DL.isB_tuple_int, DL.isB_tuple_str, DL.isB_tuple_lst, DL.isB_tuple_tup, DL.isB_tuple_dic, Bool.cond_true, Bool.cond_false, L2.CDiv, Int.reduceLT, Int.reduceLE, true_and, and_true, cond_true, cond_false, List.map_cons, List.map_nil, List.set_cons_zero, List.set_cons_succ, List.set_nil, DL.cpow_109, DL.pow_109, DL.frz_set_lst, DL.frz_set_dic, Bool.not_true, Bool.not_false, DL.itemsOf_obj, DL.enumOf_obj, DL.all_still, okD_non, okD_bl, okD_int, okD_str, okD_lst, okD_tup, okD_dic, res_set_lst, Mem.set_same, Mem.set_set, DL.dLcXM, DL.lstOf_lst, m_l_cell_at, Int.reduceLE, m_is_wish, m_is_name, m_read_row, m_l_people, m_l_wish_by, m_l_name])
/-! ### _law_formed(_law_row): 0 _law_row, 1 _law_word -/
def t_l_formed_3  : DSt :=
  (dRet (dOp oIn (dOp oIx (dVar 0) (dC (.int 0))) (dLst (dCons (dC (.str "left")) (dCons (dC (.str "asked")) (dCons (dC (.str "eased")) dNil))))))
def t_l_formed_2  : DSt :=
  (dSeq (dIfS (dB (dOp oEq (dCall (on1 lenD) (dCons (dVar 0) dNil)) (dC (.int 3)))) (dRet (dAndV (dOp oIn (dOp oIx (dVar 0) (dC (.int 0))) (dLst (dCons (dC (.str "came")) (dCons (dC (.str "begins")) dNil)))) (dOp oIn (dOp oIx (dVar 0) (dC (.int 2))) (dLst (dCons (dC (.str "read")) (dCons (dC (.str "write")) dNil)))))) dNext)
  t_l_formed_3)
def t_l_formed_1  : DSt :=
  (dSeq (dIfS (dOr (dB (dOp oNe (dLc (dItems (dVar 0)) 1 (dNot (dB (dCall (on2 isiD) (dCons (dVar 1) (dCons (dC (.ty "str")) dNil))))) (dVar 1)) (dLst dNil))) (dNot (dB (dFn m_l_name (dCons (dOp oIx (dVar 0) (dC (.int 1))) dNil))))) (dRet (dC (.bl false))) dNext)
  t_l_formed_2)
def t_l_formed  : DSt :=
  (dSeq (dIfS (dOr (dNot (dB (dCall (on2 isiD) (dCons (dVar 0) (dCons (dC (.ty "tuple")) dNil))))) (dOr (dB (dOp oLt (dCall (on1 lenD) (dCons (dVar 0) dNil)) (dC (.int 2)))) (dB (dOp oGt (dCall (on1 lenD) (dCons (dVar 0) dNil)) (dC (.int 3)))))) (dRet (dC (.bl false))) dNext)
  t_l_formed_1)
local macro_rules | `(tactic| walk_at "un") => `(tactic| simp only [t_l_formed_3, t_l_formed_2, t_l_formed_1, t_l_formed])
def m_l_formed : FDm := fun ds M Q _ => ∃ ws : List Str, ds = [.tup (ws.map .str)] ∧ Q (.bl (wordsOk ws)) M
theorem len_l_formed : ∀ ds M Q X, m_l_formed ds M Q X → ds.length = 1 := fun ds M Q X ⟨_, h, _⟩ => by subst h; rfl
theorem wish_mem (y : Str) : isWish (.str y) = decide (y ∈ [Str.ofString "read", Str.ofString "write"]) := by
  show (decide (y = Str.ofString "read") || decide (y = Str.ofString "write")) = _
  rw [← Bool.decide_or]
  exact decide_eq_decide.mpr (by rw [List.mem_cons, List.mem_singleton])
theorem formed2 (w x : Str) : wordsOk [w, x] = (nameOk x && decide (w ∈ [Str.ofString "left", Str.ofString "asked", Str.ofString "eased"])) := by
  show ((decide (w = Str.ofString "left") || (decide (w = Str.ofString "asked") || decide (w = Str.ofString "eased"))) && nameOk x) = _
  rw [Bool.and_comm, ← Bool.decide_or, ← Bool.decide_or]
  congr 1
  exact decide_eq_decide.mpr (by simp only [List.mem_cons, List.not_mem_nil, or_false])
theorem formed3 (w x y : Str) : wordsOk [w, x, y] = (nameOk x && (decide (w ∈ [Str.ofString "came", Str.ofString "begins"]) && decide (y ∈ [Str.ofString "read", Str.ofString "write"]))) := by
  show ((decide (w = Str.ofString "came") || decide (w = Str.ofString "begins")) && (nameOk x && isWish (.str y))) = _
  rw [wish_mem, ← Bool.decide_or, ← Bool.and_assoc, ← Bool.and_assoc, Bool.and_comm (decide _) (nameOk x)]
  congr 2
  exact decide_eq_decide.mpr (by simp only [List.mem_cons, List.not_mem_nil, or_false])
theorem read_l_formed : ∀ ds M Q X, m_l_formed ds M Q X → t_l_formed (bodyE Q X) (startD 2 ds) M := by
  rintro ds M Q X ⟨ws, rfl, h⟩
  unfold t_l_formed
  walk_at "dl"
  have hl : ((ws.map D.str).length : Int) = (ws.length : Int) := by rw [List.length_map]
  have few : ¬ (2 ≤ ws.length ∧ ws.length ≤ 3) → retD Q (.bl false) M := fun hn => by
    have e : wordsOk ws = false := by
      match ws, hn with
      | [], _ | [_], _ => rfl
      | [_, _], hn | [_, _, _], hn => exact absurd ⟨by simp, by simp⟩ hn
      | _ :: _ :: _ :: _ :: _, _ => rfl
    rw [e] at h
    exact retD_of h
  refine cond_dec (fun e => few (by omega)) fun e1 => ?_
  refine cond_dec (fun e => few (by omega)) fun e2 => ?_
  have e1 : 2 ≤ ws.length := by omega
  have e2 : ws.length ≤ 3 := by omega
  unfold t_l_formed_1
  walk_at "dl"
  refine lc_pure (fun _ => false) (fun x => x) (fun x hx M' hs Qb q => ?_) (fun x hx hp => by cases hp) ?_
  · obtain ⟨z, hz, rfl⟩ := List.mem_map.mp hx
    walk_at "dl"
    exact q
  rw [filter_no]
  walk_at "dl"
  refine ⟨rfl, rfl, ?_⟩
  rw [eqv_nil]
  show cond false _ _
  rw [cond_false]
  match ws, e1, e2 with
  | [w, x], _, _ =>
    rw [formed2] at h
    walk_at "dl"
    rw [show isName (.str x) = nameOk x from rfl]
    cases hn : nameOk x with
    | false =>
      rw [hn] at h
      exact retD_of h
    | true =>
      rw [hn] at h
      walk_at "dl"
      unfold t_l_formed_2
      walk_at "dl"
      rw [show decide ((([D.str w, D.str x] : List D).length : Int) = 3) = false from rfl, cond_false]
      unfold t_l_formed_3
      walk_at "dl"
      rw [show [D.str (Str.ofString "left"), D.str (Str.ofString "asked"), D.str (Str.ofString "eased")] = [Str.ofString "left", Str.ofString "asked", Str.ofString "eased"].map D.str from rfl, inD_names]
      exact ⟨flatD_names _, retD_of h⟩
  | [w, x, y], _, _ =>
    rw [formed3] at h
    walk_at "dl"
    rw [show isName (.str x) = nameOk x from rfl]
    cases hn : nameOk x with
    | false =>
      rw [hn] at h
      exact retD_of h
    | true =>
      rw [hn] at h
      walk_at "dl"
      unfold t_l_formed_2
      walk_at "dl"
      rw [show decide ((([D.str w, D.str x, D.str y] : List D).length : Int) = 3) = true from rfl, cond_true]
      rw [show [D.str (Str.ofString "came"), D.str (Str.ofString "begins")] = [Str.ofString "came", Str.ofString "begins"].map D.str from rfl, inD_names]
      refine ⟨flatD_names _, ?_⟩
      cases hc : decide (w ∈ [Str.ofString "came", Str.ofString "begins"]) with
      | false =>
        rw [hc] at h
        exact retD_of h
      | true =>
        rw [hc] at h
        walk_at "dl"
        rw [show [D.str (Str.ofString "read"), D.str (Str.ofString "write")] = [Str.ofString "read", Str.ofString "write"].map D.str from rfl, inD_names]
        exact ⟨flatD_names _, retD_of h⟩

/-! ### _law_rows_of(_law_lines): 0 _law_lines, 1 _law_rows, 2 _law_line, 3 _law_row, 4 _law_word -/
def t_l_rows_of_L2  : DSt :=
  (dSet 3 (dOp oAdd (dVar 3) (dTup (dCons (dVar 4) dNil))))
def t_l_rows_of_L1_3  : DSt :=
  (dExpr (dMet isLst oAppend (dVar 1) (dCons (dVar 3) dNil)))
def t_l_rows_of_L1_2  : DSt :=
  (dSeq (dIfS (dNot (dB (dFn m_l_formed (dCons (dVar 3) dNil)))) (dRet (dC .non)) dNext)
  t_l_rows_of_L1_3)
def t_l_rows_of_L1_1  : DSt :=
  (dSeq (dFor (dItems (dMet isStr oSplit (dVar 2) (dCons (dC (.str " ")) dNil))) (dgName 4) t_l_rows_of_L2)
  t_l_rows_of_L1_2)
def t_l_rows_of_L1  : DSt :=
  (dSeq (dSet 3 (dTup dNil))
  t_l_rows_of_L1_1)
def t_l_rows_of_2  : DSt :=
  (dRet (dFrz (dVar 1)))
def t_l_rows_of_1  : DSt :=
  (dSeq (dFor (dItems (dVar 0)) (dgName 2) t_l_rows_of_L1)
  t_l_rows_of_2)
def t_l_rows_of  : DSt :=
  (dSeq (dSet 1 (dLstM dNil))
  t_l_rows_of_1)
local macro_rules | `(tactic| walk_at "un") => `(tactic| simp only [t_l_rows_of_2, t_l_rows_of_1, t_l_rows_of])
/-- what the law's reading gives -/
def dueD (ls : List Str) : D := cond (ls.all lok) (.lst (ls.map rowL)) .non
def m_l_rows_of : FDm := fun ds M Q _ => ∃ ls : List Str, ds = [.lst (ls.map .str)] ∧ ls.length ≤ 1000 ∧ (∀ z ∈ ls, lineOk 61 z) ∧ Q (dueD ls) M
theorem len_l_rows_of : ∀ ds M Q X, m_l_rows_of ds M Q X → ds.length = 1 := fun ds M Q X ⟨_, h, _⟩ => by subst h; rfl
theorem read_l_rows_of : ∀ ds M Q X, m_l_rows_of ds M Q X → t_l_rows_of (bodyE Q X) (startD 5 ds) M := by
  rintro ds M Q X ⟨ls, rfl, hl, hz, h⟩
  unfold t_l_rows_of
  walk_at "dl"
  intro a ha
  unfold t_l_rows_of_1
  walk_at "dl"
  have sz : sizeLine = 16777216 := sizeLine_eq
  refine ⟨fun k δ M' => M' = M.set a (.lst ((ls.take k).map rowL)) ∧ (ls.take k).all lok = true ∧ ∃ o2 o3 o4 : Option D, δ = [some (.lst (ls.map .str)), some (.obj a), o2, o3, o4], ⟨rfl, rfl, _, _, _, rfl⟩, ?_, ?_⟩
  · rintro k x δ M' hx ⟨rfl, hk, o2, o3, o4, rfl⟩
    refine ⟨trivial, ?_⟩
    rw [List.getElem?_map] at hx
    cases e : ls[k]? with
    | none => rw [e] at hx; cases hx
    | some z =>
      rw [e] at hx
      cases hx
      have hm : z ∈ ls := List.mem_of_getElem? e
      have zok := hz z hm
      have zl := zok.2.2
      have et : ls.take (k + 1) = ls.take k ++ [z] := by rw [List.take_add_one, e]; rfl
      have w := PyProof.Rows.split_weight z sp (by rw [sp_len]; omega)
      have hlt : k < ls.length := (List.getElem?_eq_some_iff.mp e).1
      unfold t_l_rows_of_L1
      walk_at "dl"
      unfold t_l_rows_of_L1_1
      walk_at "dl"
      have e0 : Txt.split z (Str.ofString " ") = Txt.split z sp := rfl
      rw [e0]
      have lk : lok z = wordsOk (Txt.split z sp) := rfl
      have rl : rowL z = .tup ((Txt.split z sp).map .str) := rfl
      refine ⟨by decide +kernel, by omega, by omega, fun p hp => split_parts (by rw [sp_len]; omega) (strOk_plain zok.1 (by omega)) (by omega) hp, ?_⟩
      generalize Txt.split z sp = ws at lk rl w ⊢
      refine ⟨fun j δ M' => M' = M.set a (.lst ((ls.take k).map rowL)) ∧ ∃ o4 : Option D, δ = [some (.lst (ls.map .str)), some (.obj a), some (.str z), some (.tup ((ws.take j).map .str)), o4], ⟨rfl, _, rfl⟩, ?_, ?_⟩
      · rintro j x δ M' hx ⟨rfl, o4, rfl⟩
        refine ⟨trivial, ?_⟩
        rw [List.getElem?_map] at hx
        cases e2 : ws[j]? with
        | none => rw [e2] at hx; cases hx
        | some y =>
          rw [e2] at hx
          cases hx
          have hj := (List.getElem?_eq_some_iff.mp e2).1
          have ej : ws.take (j + 1) = ws.take j ++ [y] := by rw [List.take_add_one, e2]; rfl
          unfold t_l_rows_of_L2
          walk_at "dl"
          refine ⟨by rw [List.length_map, List.length_take]; show _ + 1 ≤ _; omega, some (.str y), ?_⟩
          rw [ej, List.map_append]
          rfl
      · rintro δ M' ⟨rfl, o4, rfl⟩
        refine ⟨trivial, ?_⟩
        rw [List.length_map, List.take_length]
        unfold t_l_rows_of_L1_2
        walk_at "dl"
        refine ⟨ws, rfl, ?_⟩
        rw [← lk]
        cases el : lok z with
        | false =>
          walk_at "dl"
          have en : dueD ls = .non := by
            unfold dueD
            have : ls.all lok = false := by
              rw [List.all_eq_false]
              exact ⟨z, hm, by rw [el]; exact Bool.false_ne_true⟩
            rw [this]
            rfl
          rw [en] at h
          exact ⟨M, Mem.sub_set ha, h⟩
        | true =>
          walk_at "dl"
          unfold t_l_rows_of_L1_3
          walk_at "dl"
          refine ⟨by rw [List.length_map, List.length_take]; omega, ?_, ?_, _, _, _, rfl⟩
          · rw [et, List.map_append, ← rl]
            rfl
          · rw [et, List.all_append, hk]
            simp [el]
  · rintro δ M' ⟨rfl, hk, o2, o3, o4, rfl⟩
    refine ⟨trivial, ?_⟩
    rw [List.length_map, List.take_length] at hk
    rw [List.length_map, List.take_length]
    unfold t_l_rows_of_2
    walk_at "dl"
    rw [Mem.del_set ha]
    unfold dueD at h
    rw [hk] at h
    exact retD_of h

/-! ### _law_rows_alike(_law_found, _law_due): 0 _law_found, 1 _law_due, 2 _law_k, 3 _law_word -/
def t_l_rows_alike_L1_1  : DSt :=
  (dIfS (dB (dOp oNe (dLc (dItems (dOp oIx (dVar 0) (dVar 2))) 3 (dNot (dB (dCall (on2 isiD) (dCons (dVar 3) (dCons (dC (.ty "str")) dNil))))) (dVar 3)) (dLst dNil))) (dRet (dC (.bl false))) dNext)
def t_l_rows_alike_L1  : DSt :=
  (dSeq (dIfS (dOr (dNot (dB (dCall (on2 isiD) (dCons (dOp oIx (dVar 0) (dVar 2)) (dCons (dC (.ty "tuple")) dNil))))) (dB (dOp oNe (dCall (on1 lenD) (dCons (dOp oIx (dVar 0) (dVar 2)) dNil)) (dCall (on1 lenD) (dCons (dOp oIx (dVar 1) (dVar 2)) dNil))))) (dRet (dC (.bl false))) dNext)
  t_l_rows_alike_L1_1)
def t_l_rows_alike_2  : DSt :=
  (dRet (dOp oEq (dVar 0) (dVar 1)))
def t_l_rows_alike_1  : DSt :=
  (dSeq (dFor (dRange1 (dCons (dCall (on1 lenD) (dCons (dVar 1) dNil)) dNil)) (dgName 2) t_l_rows_alike_L1)
  t_l_rows_alike_2)
def t_l_rows_alike  : DSt :=
  (dSeq (dIfS (dOr (dNot (dB (dCall (on2 isiD) (dCons (dVar 0) (dCons (dC (.ty "list")) dNil))))) (dB (dOp oNe (dCall (on1 lenD) (dCons (dVar 0) dNil)) (dCall (on1 lenD) (dCons (dVar 1) dNil))))) (dRet (dC (.bl false))) dNext)
  t_l_rows_alike_1)
local macro_rules | `(tactic| walk_at "un") => `(tactic| simp only [t_l_rows_alike_2, t_l_rows_alike_1, t_l_rows_alike])
def m_l_rows_alike : FDm := fun ds M Q _ => ∃ (d e : D) (l : List Rw), ds = [d, e] ∧ Vw d (eRows l) M ∧ Vw e (eRows l) M ∧ l.length ≤ 100000 ∧ Q (.bl true) M
theorem len_l_rows_alike : ∀ ds M Q X, m_l_rows_alike ds M Q X → ds.length = 2 := fun ds M Q X ⟨_, _, _, h, _⟩ => by subst h; rfl
theorem nth_eRows {l : List Rw} {k : Nat} {r : Rw} (h : l[k]? = some r) : nth (eRows l) (k : Int) = some (eR r) := by
  rw [nth_nat]
  unfold eRows
  rw [List.getElem?_map, h]
  rfl
theorem read_l_rows_alike : ∀ ds M Q X, m_l_rows_alike ds M Q X → t_l_rows_alike (bodyE Q X) (startD 4 ds) M := by
  rintro ds M Q X ⟨d, e, l, rfl, hv, hw, hl, h⟩
  unfold t_l_rows_alike
  walk_at "dl"
  rw [hv.res]
  walk_at "dl"
  rw [hw.res]
  walk_at "dl"
  simp only [decide_true]
  walk_at "dl"
  unfold t_l_rows_alike_1
  walk_at "dl"
  rw [hw.res]
  walk_at "dl"
  refine ⟨by rw [len_eRows]; omega, by rw [len_eRows]; omega, fun k δ M' => M' = M ∧ ∃ o1 o2 : Option D, δ = [some d, some e, o1, o2], ⟨rfl, _, _, rfl⟩, ?_, ?_⟩
  · rintro k x δ M' hx ⟨rfl, o1, o2, rfl⟩
    refine ⟨trivial, ?_⟩
    obtain ⟨hk, rfl⟩ := rangeD_get hx
    have hk : k < l.length := by rw [len_eRows, Int.toNat_natCast] at hk; exact hk
    have hg := List.getElem?_eq_getElem hk
    generalize l[k] = r at hg
    unfold t_l_rows_alike_L1
    walk_at "dl"
    rw [hv.res, ixR_lst, nth_eRows hg, el_some]
    unfold eR
    walk_at "dl"
    rw [hv.res, ixR_lst, nth_eRows hg, el_some]
    unfold eR
    walk_at "dl"
    rw [hw.res, ixR_lst, nth_eRows hg, el_some]
    unfold eR
    walk_at "dl"
    simp only [decide_true]
    walk_at "dl"
    unfold t_l_rows_alike_L1_1
    walk_at "dl"
    rw [hv.res, ixR_lst, nth_eRows hg, el_some]
    unfold eR
    walk_at "dl"
    refine lc_pure (fun _ => false) id (fun x hx M1 hs Qb q => ?_) (fun x hx hh => by cases hh) ?_
    · obtain ⟨z, hz, rfl⟩ := List.mem_map.mp hx
      walk_at "dl"
      exact q
    · rw [filter_no]
      walk_at "dl"
      refine ⟨rfl, rfl, ?_⟩
      rw [eqv_nil]
      exact ⟨_, _, rfl⟩
  · rintro δ M' ⟨rfl, o1, o2, rfl⟩
    refine ⟨trivial, ?_⟩
    unfold t_l_rows_alike_2
    walk_at "dl"
    rw [hv.eqS hw, hv.res, hw.res, eqR_none]
    refine ⟨flat_eRows l, flat_eRows l, ?_⟩
    rw [(eqv_eRows l l).mpr rfl]
    exact retD_of h

/-! ### law(_law_script): 0 _law_script, 1 _law_people_here, 2 _law_lines, 3 _law_k, 4 _law_place, 5 _law_right, 6 _law_odd, 7 _law_due, 8 _law_whole, 9 _law_line -/
def t_law_8 (A : Adr) : DSt :=
  (dRet (dFn m_l_rows_alike (dCons (dFn (m_read A) (dCons (dVar 8) dNil)) (dCons (dVar 7) dNil))))
def t_law_7 (A : Adr) : DSt :=
  (dSeq (dIfS (dB (dIsN false (dVar 7))) (dRet (dFn (m_l_refused A) (dCons (dVar 8) dNil))) dNext)
  (t_law_8 A))
def t_law_6 (A : Adr) : DSt :=
  (dSeq (dIfS (dAnd (dB (dOp oNe (dVar 2) (dLst dNil))) (dB (dOp oEq (dOp oMod (dOp oDiv (dFn m_l_cell_at (dCons (dVar 0) (dCons (dC (.int 11)) dNil))) (dC (.int 4))) (dC (.int 6))) (dC (.int 1))))) (dSeq (dSet 8 (dSl (dVar 8) dNoPart (dPart (dUn oNeg (dC (.int 1))))))
  (dSeq (dSet 7 (dC .non))
  (dIfS (dB (dOp oEq (dOp oIx (dVar 2) (dUn oNeg (dC (.int 1)))) (dC (.str "")))) (dSet 7 (dFn m_l_rows_of (dCons (dSl (dVar 2) dNoPart (dPart (dUn oNeg (dC (.int 1))))) dNil))) dNext))) dNext)
  (t_law_7 A))
def t_law_5 (A : Adr) : DSt :=
  (dSeq (dSet 8 (dMet isStr oJoin (dC (.str "")) (dCons (dLc (dItems (dVar 2)) 9 dYes (dOp oAdd (dVar 9) (dC (.str "\n")))) dNil)))
  (t_law_6 A))
def t_law_4 (A : Adr) : DSt :=
  (dSeq (dSet 7 (dFn m_l_rows_of (dCons (dVar 2) dNil)))
  (t_law_5 A))
def t_law_3 (A : Adr) : DSt :=
  (dSeq (dIfS (dB (dOp oNe (dOp oMod (dFn m_l_cell_at (dCons (dVar 0) (dCons (dC (.int 11)) dNil))) (dC (.int 4))) (dC (.int 0)))) (dSeq (dSet 4 (dOp oMod (dFn m_l_cell_at (dCons (dVar 0) (dCons (dC (.int 12)) dNil))) (dOp oAdd (dCall (on1 lenD) (dCons (dVar 2) dNil)) (dC (.int 1)))))
  (dSeq (dSet 5 (dFn m_l_line_by (dCons (dFn m_l_cell_at (dCons (dVar 0) (dCons (dC (.int 13)) dNil))) (dCons (dVar 1) dNil))))
  (dSeq (dSet 6 (dFn m_l_odd_by (dCons (dFn m_l_cell_at (dCons (dVar 0) (dCons (dC (.int 14)) dNil))) (dCons (dFn m_l_cell_at (dCons (dVar 0) (dCons (dC (.int 15)) dNil))) (dCons (dVar 5) dNil)))))
  (dSet 2 (dOp oAdd (dOp oAdd (dSl (dVar 2) dNoPart (dPart (dVar 4))) (dLst (dCons (dVar 6) dNil))) (dSl (dVar 2) (dPart (dVar 4)) dNoPart)))))) dNext)
  (t_law_4 A))
def t_law_2 (A : Adr) : DSt :=
  (dSeq (dSet 2 (dLc (dRange1 (dCons (dOp oMod (dFn m_l_cell_at (dCons (dVar 0) (dCons (dC (.int 0)) dNil))) (dC (.int 9))) dNil)) 3 dYes (dFn m_l_line_by (dCons (dFn m_l_cell_at (dCons (dVar 0) (dCons (dOp oAdd (dC (.int 2)) (dVar 3)) dNil))) (dCons (dVar 1) dNil)))))
  (t_law_3 A))
def t_law_1 (A : Adr) : DSt :=
  (dSeq (dSet 1 (dFn m_l_people (dCons (dFn m_l_cell_at (dCons (dVar 0) (dCons (dC (.int 1)) dNil))) (dCons (dC (.int 5)) dNil))))
  (t_law_2 A))
def t_law (A : Adr) : DSt :=
  (dSeq (dIfS (dB (dOp oEq (dOp oMod (dOp oDiv (dFn m_l_cell_at (dCons (dVar 0) (dCons (dC (.int 0)) dNil))) (dC (.int 9))) (dC (.int 8))) (dC (.int 1)))) (dRet (dFn (m_l_refused A) (dCons (dOp oIx (dLst (dCons (dC .non) (dCons (dC (.int 5)) (dCons (dLst (dCons (dC (.str "left a")) dNil)) (dCons (dC (.bl true)) (dCons (dTup (dCons (dC (.str "left")) (dCons (dC (.str "a")) dNil))) (dCons dDic0 dNil))))))) (dOp oMod (dFn m_l_cell_at (dCons (dVar 0) (dCons (dC (.int 1)) dNil))) (dC (.int 6)))) dNil))) dNext)
  (t_law_1 A))
local macro_rules | `(tactic| walk_at "un") => `(tactic| simp only [t_law_8, t_law_7, t_law_6, t_law_5, t_law_4, t_law_3, t_law_2, t_law_1, t_law])
abbrev m_law : FDm := mLaw
theorem len_law : ∀ ds M Q X, m_law ds M Q X → ds.length = 1 := fun ds M Q X ⟨ns, h, _⟩ => by subst h; rfl
/-- rows that are rows, as the kinds of rows -/
theorem rw_of {ws : List Str} (h : wordsOk ws = true) : ∃ r : Rw, r.words = ws := by
  have wish : ∀ c : Str, isWish (.str c) = true → ∃ b, wishS b = c := fun c hc => by
    have hc : (decide (c = Str.ofString "read") || decide (c = Str.ofString "write")) = true := hc
    rw [Bool.or_eq_true, decide_eq_true_eq, decide_eq_true_eq] at hc
    rcases hc with rfl | rfl
    · exact ⟨true, wishS_t⟩
    · exact ⟨false, wishS_f⟩
  match ws, h with
  | [a, b, c], h =>
    have h : ((decide (a = Str.ofString "came") || decide (a = Str.ofString "begins")) && (nameOk b && isWish (.str c))) = true := h
    simp only [Bool.and_eq_true, Bool.or_eq_true, decide_eq_true_eq] at h
    obtain ⟨ha, _, hc⟩ := h
    obtain ⟨w, rfl⟩ := wish c hc
    rcases ha with rfl | rfl
    · exact ⟨.came b w, rfl⟩
    · exact ⟨.begins b w, rfl⟩
  | [a, b], h =>
    have h : ((decide (a = Str.ofString "left") || (decide (a = Str.ofString "asked") || decide (a = Str.ofString "eased"))) && nameOk b) = true := h
    simp only [Bool.and_eq_true, Bool.or_eq_true, decide_eq_true_eq] at h
    obtain ⟨ha, _⟩ := h
    rcases ha with rfl | rfl | rfl
    · exact ⟨.left b, rfl⟩
    · exact ⟨.asked b, rfl⟩
    · exact ⟨.eased b, rfl⟩
  | [], h => cases h
  | [_], h => cases h
  | _ :: _ :: _ :: _ :: _, h => cases h
theorem rows_of {ls : List Str} (h : ls.all lok = true) : ∃ l : List Rw, l.length = ls.length ∧ ls.map rowL = eRows l := by
  induction ls with
  | nil => exact ⟨[], rfl, rfl⟩
  | cons z ls ih =>
    rw [List.all_cons, Bool.and_eq_true] at h
    obtain ⟨l, e1, e2⟩ := ih h.2
    obtain ⟨r, er⟩ := rw_of h.1
    refine ⟨r :: l, by rw [List.length_cons, List.length_cons, e1], ?_⟩
    rw [List.map_cons, e2]
    show rowL z :: eRows l = eR r :: eRows l
    congr 1
    show D.tup ((Txt.split z sp).map .str) = .tup (r.words.map .str)
    rw [er]
/-- the text is read, or refused, as is due -/
theorem k12_fin (A : Adr) {ns : List Int} {z : Str} {ls : List Str} {l : Str} {M : Mem} {Q : QD} {X : Addr → Mem → Prop} {o1 o2 o3 o4 o5 o6 o9 : Option D} (hl : z.length ≤ 10000) (hp : plain z) (hs : Txt.split z nl = ls ++ [l]) (hn : ls.length ≤ 1000) (h : ∀ M', Q (.bl true) M') :
    t_law_7 A (bodyE Q X) [some (.scr ns), o1, o2, o3, o4, o5, o6, some (cond (fitL ls l) (.lst (ls.map rowL)) .non), some (.str z), o9] M := by
  unfold t_law_7
  cases e : fitL ls l with
  | false =>
    walk_at "dl"
    exact ⟨_, rfl, .inr ⟨z, ls, l, rfl, hl, hp, hs, e⟩, retD_of (h M)⟩
  | true =>
    walk_at "dl"
    unfold t_law_8
    walk_at "dl"
    have e2 : ls.all lok = true := by
      unfold fitL at e
      rw [Bool.and_eq_true] at e
      exact e.2
    obtain ⟨r, e3, e4⟩ := rows_of e2
    refine ⟨_, rfl, .inr ⟨z, ls, l, rfl, hl, hp, hs, fun _ => ?_, fun e5 => by rw [e] at e5; cases e5⟩⟩
    walk_at "dl"
    rw [e4]
    exact ⟨_, _, r, rfl, .lst _ _, .lst _ _, by omega, retD_of (h M)⟩
theorem k12_text (A : Adr) {ns : List Int} {lines : List Str} {M : Mem} {Q : QD} {X : Addr → Mem → Prop} {o1 o3 o4 o5 o6 : Option D} (hn : lines.length ≤ 20) (hz : ∀ z ∈ lines, lineOk 61 z) (h : ∀ M', Q (.bl true) M') :
    t_law_4 A (bodyE Q X) [some (.scr ns), o1, some (.lst (lines.map .str)), o3, o4, o5, o6, none, none, none] M := by
  unfold t_law_4
  walk_at "dl"
  refine ⟨lines, rfl, by omega, hz, ?_⟩
  unfold t_law_5
  walk_at "dl"
  refine lc_map (fun x => match x with | .str z => .str (z ++ nl) | _ => .non) (fun x hx M1 hs Qd q => ?_) ?_
  · obtain ⟨z, hm, rfl⟩ := List.mem_map.mp hx
    have zl := (hz z hm).2.2
    walk_at "dl"
    rw [show Str.ofString "\n" = nl from rfl]
    exact ⟨by rw [nl_len, sizeLine_eq]; omega, q⟩
  have em : ((lines.map D.str).map fun x => match x with | .str z => D.str (z ++ nl) | _ => .non) = (lines.map fun z => z ++ nl).map D.str := by rw [List.map_map, List.map_map]; rfl
  rw [em]
  have tl := textL_len hz
  have tp := textL_plain hz
  have e0 : (Str.ofString "").length = 0 := by decide +kernel
  have sm := sum_le (l := lines.map fun z => z ++ nl) (k := 62) fun z hm => by
    obtain ⟨r, hr, rfl⟩ := List.mem_map.mp hm
    rw [len_append, nl_len]
    have := (hz r hr).2.2
    omega
  rw [List.length_map] at sm
  refine ⟨lines.map fun z => z ++ nl, .inl rfl, by rw [e0]; omega, strOk_plain tp (show (textL lines).length ≤ sizeLine by rw [sizeLine_eq]; omega), ?_⟩
  show t_law_6 A _ [some (.scr ns), o1, some (.lst (lines.map .str)), o3, o4, o5, o6, some (dueD lines), some (.str (textL lines)), none] M
  have n10 : ∀ z ∈ lines, 10 ∉ z.cps.toList := fun z hm => (hz z hm).2.1
  have whole : t_law_7 A (bodyE Q X) [some (.scr ns), o1, some (.lst (lines.map .str)), o3, o4, o5, o6, some (dueD lines), some (.str (textL lines)), none] M := by
    have ed : dueD lines = cond (fitL lines (Str.ofString "")) (.lst (lines.map rowL)) .non := by
      unfold dueD fitL
      rw [decide_eq_true rfl, Bool.true_and]
    rw [ed]
    exact k12_fin A (by omega) tp (split_lines n10) (by omega) h
  unfold t_law_6
  walk_at "dl"
  refine ⟨flat_names _, rfl, ?_⟩
  rw [eqv_nil]
  rcases List.eq_nil_or_concat lines with e | ⟨ls, l, e⟩
  · rw [e] at whole ⊢
    exact whole
  rw [List.concat_eq_append] at e
  have ne : lines ≠ [] := by rw [e]; simp
  have ee : (lines.map D.str).isEmpty = false := by rw [List.isEmpty_eq_false_iff]; simpa using ne
  rw [ee]
  show cond true _ _
  rw [cond_true]
  refine cond_dec (fun _ => ?_) fun _ => whole
  have cut := split_cut ne n10
  rw [e] at cut
  have ct : (cutS (textL lines) none (some (-1))).length ≤ 10000 := by
    have hc : (cutS (textL lines) none (some (-1))).cps.toList.length ≤ (textL lines).cps.toList.length := by
      show ((((textL lines).cps.toList.drop _).take _).toArray).toList.length ≤ _
      simp only [List.length_take, List.length_drop]
      omega
    rw [str_len, str_len] at hc
    omega
  have cp : plain (cutS (textL lines) none (some (-1))) := cut_plain tp
  have hls : ls.length ≤ 20 := by
    rw [e, List.length_append] at hn
    omega
  have hz2 : ∀ z ∈ ls, lineOk 61 z := fun z hm => hz z (by rw [e]; exact List.mem_append_left _ hm)
  rw [← e] at cut
  generalize cutS (textL lines) none (some (-1)) = z at cut ct cp ⊢
  rw [e] at cut
  rw [e, List.map_append, List.map_singleton, nth_last, el_some]
  walk_at "dl"
  have fin : ∀ d, d = cond (fitL ls l) (.lst (ls.map rowL)) .non → t_law_7 A (bodyE Q X) [some (.scr ns), o1, some (.lst (ls.map D.str ++ [D.str l])), o3, o4, o5, o6, some d, some (.str z), none] M := fun d ed => by
    rw [ed]
    exact k12_fin A ct cp cut (by omega) h
  cases e2 : decide (l = Str.ofString "") with
  | true =>
    walk_at "dl"
    rw [dcut_init]
    refine ⟨ls, rfl, by omega, hz2, fin _ ?_⟩
    unfold dueD fitL
    rw [e2, Bool.true_and]
  | false =>
    walk_at "dl"
    refine fin _ ?_
    unfold fitL
    rw [e2]
    rfl
theorem read_law (A : Adr) : ∀ ds M Q X, m_law ds M Q X → t_law A (bodyE Q X) (startD 10 ds) M := by
  rintro ds M Q X ⟨ns, rfl, _, h⟩
  unfold t_law
  walk_at "dl"
  have m0 := Int.emod_nonneg (cellAt ns 1) (show (6 : Int) ≠ 0 by decide)
  have m1 := Int.emod_lt_of_pos (cellAt ns 1) (show (0 : Int) < 6 by decide)
  refine cond_dec (fun _ => ?_) fun _ => ?_
  · have hall : ∀ d ∈ [D.non, D.int 5, D.lst [D.str (Str.ofString "left a")], D.bl true, D.tup [D.str (Str.ofString "left"), D.str (Str.ofString "a")], D.dic []], okD d = true ∧ isTx d = false := fun d hd => by
      simp only [List.mem_cons, List.not_mem_nil, or_false] at hd
      rcases hd with rfl | rfl | rfl | rfl | rfl | rfl <;> exact ⟨rfl, rfl⟩
    have hl : [D.non, D.int 5, D.lst [D.str (Str.ofString "left a")], D.bl true, D.tup [D.str (Str.ofString "left"), D.str (Str.ofString "a")], D.dic []].length = 6 := rfl
    generalize [D.non, D.int 5, D.lst [D.str (Str.ofString "left a")], D.bl true, D.tup [D.str (Str.ofString "left"), D.str (Str.ofString "a")], D.dic []] = l at hall hl ⊢
    have hi : (cellAt ns 1 % 6).toNat < l.length := by omega
    rw [nth_toNat _ m0, List.getElem?_eq_getElem hi, el_some]
    exact ⟨_, rfl, .inl (hall _ (List.getElem_mem hi)), retD_of (h M)⟩
  unfold t_law_1
  walk_at "dl"
  intro names hn hz
  have hn : names.length = 5 := hn
  unfold t_law_2
  walk_at "dl"
  have c0 := Int.emod_nonneg (cellAt ns 0) (show (9 : Int) ≠ 0 by decide)
  have c1 := Int.emod_lt_of_pos (cellAt ns 0) (show (0 : Int) < 9 by decide)
  refine ⟨by omega, by omega, lc_rangeD (fun k => .str (lineBy (cellAt ns (2 + (k : Int))) names)) (fun k hk M1 hs Qd q => ?_) ?_⟩
  · walk_at "dl"
    exact ⟨by omega, _, names, rfl, hn, hz, q⟩
  have hlen : (cellAt ns 0 % 9).toNat ≤ 8 := by omega
  generalize (cellAt ns 0 % 9).toNat = n at hlen ⊢
  have em : ((List.range n).map fun k : Nat => D.str (lineBy (cellAt ns (2 + (k : Int))) names)) = ((List.range n).map fun k : Nat => lineBy (cellAt ns (2 + (k : Int))) names).map D.str := by rw [List.map_map]; rfl
  rw [em]
  have hL : ((List.range n).map fun k : Nat => lineBy (cellAt ns (2 + (k : Int))) names).length ≤ 8 := by rw [List.length_map, List.length_range]; exact hlen
  have hZ : ∀ z ∈ (List.range n).map fun k : Nat => lineBy (cellAt ns (2 + (k : Int))) names, lineOk 61 z := fun z hm => by
    obtain ⟨k, _, rfl⟩ := List.mem_map.mp hm
    exact lineOk_up (lineBy_ok hn hz) (by decide)
  generalize ((List.range n).map fun k : Nat => lineBy (cellAt ns (2 + (k : Int))) names) = L at hL hZ ⊢
  unfold t_law_3
  walk_at "dl"
  have sz : sizeLine = 16777216 := sizeLine_eq
  rw [List.length_map]
  cases decide (cellAt ns 11 % 4 = 0) with
  | true => exact k12_text A (by omega) hZ h
  | false =>
    walk_at "dl"
    refine ⟨by omega, _, names, rfl, hn, hz, ?_⟩
    refine ⟨_, _, _, rfl, lineBy_ok hn hz, fun z hz2 => ?_⟩
    have p0 := Int.emod_nonneg (cellAt ns 12) (show ((L.length : Int) + 1) ≠ 0 by omega)
    generalize cellAt ns 12 % ((L.length : Int) + 1) = p at p0 ⊢
    rw [dcut_hi _ p0, dcut_lo _ p0, ← List.map_take, ← List.map_drop]
    dsimp only
    rw [show [D.str z] = [z].map D.str from rfl, ← List.map_append, ← List.map_append]
    have l1 : (L.take p.toNat).length ≤ 8 := by rw [List.length_take]; omega
    have l2 : (L.drop p.toNat).length ≤ 8 := by rw [List.length_drop]; omega
    refine ⟨by rw [List.length_map]; show _ + 1 ≤ _; omega, by rw [List.length_map, List.length_map, List.length_append]; show _ + 1 + _ ≤ _; omega, k12_text A ?_ (fun y hy => ?_) h⟩
    · rw [List.length_append, List.length_append]
      show _ + 1 + _ ≤ _
      omega
    · rcases List.mem_append.mp hy with q | q
      · rcases List.mem_append.mp q with q | q
        · exact hZ y (List.mem_of_mem_take q)
        · rw [List.mem_singleton.mp q]
          exact hz2
      · exact hZ y (List.mem_of_mem_drop q)

end My
namespace My
open PySem PySem.Spec PyProof.Rows L2 DL
def topS (i : Nat) : Stmt := PySem.Challenge.pw_readwriteroom_k12_texts_refused.main.body.getD i (.Pass ⟨0, 0, 0, 0⟩)
structure Txt (K : PySem.W.Frag) (mg : Str → Option Value) (A : Adr) : Prop where
  zero : True
  b_ValueError : mg "ValueError" = none
  b_int : mg "int" = none
  b_isinstance : mg "isinstance" = none
  b_len : mg "len" = none
  b_list : mg "list" = none
  b_range : mg "range" = none
  b_str : mg "str" = none
  b_tuple : mg "tuple" = none
  mg_LONGEST : ∃ u, mg "LONGEST" = some u ∧ RelV (.int 12) u
  mg_SIGNS : ∃ u, mg "SIGNS" = some u ∧ RelV (.str "abcdefghijklmnopqrstuvwxyz0123456789") u
  mg_RoomError : mg "RoomError" = some (.ref A.RoomError)
  mg_BadName : mg "BadName" = some (.ref A.BadName)
  mg_BadWish : mg "BadWish" = some (.ref A.BadWish)
  mg_BadNumber : mg "BadNumber" = some (.ref A.BadNumber)
  mg_Known : mg "Known" = some (.ref A.Known)
  mg_Stranger : mg "Stranger" = some (.ref A.Stranger)
  mg_Outside : mg "Outside" = some (.ref A.Outside)
  mg_Inside : mg "Inside" = some (.ref A.Inside)
  mg_Reads : mg "Reads" = some (.ref A.Reads)
  mg_Writes : mg "Writes" = some (.ref A.Writes)
  mg_Asked : mg "Asked" = some (.ref A.Asked)
  mg_BadText : mg "BadText" = some (.ref A.BadText)
  mg_BadJournal : mg "BadJournal" = some (.ref A.BadJournal)
  x_BadText : PySem.W.excIn K A.BadText [.type "ValueError", .type "Exception", .type "BaseException", .type "object"] "ValueError.__new__" = true
  k_BadText : PySem.W.keepIn K (.ref A.BadText) = true
  s_BadText : PySem.W.subIn K (.ref A.BadText) (.type "BaseException") = some true
  t_BadText : PySem.W.typeIn K (.ref A.BadText) = some (.type "type")
  e_BadText_RoomError : PySem.W.exmOne K (.ref A.BadText) (.ref A.RoomError) = some true
  e_BadText_BadText : PySem.W.exmOne K (.ref A.BadText) (.ref A.BadText) = some true
  ec_BadText : ExcC K A.BadText
  i_BadText_BadName : PySem.W.kitOne K (.ref A.BadText) (.ref A.BadName) = some false
  i_BadText_BadWish : PySem.W.kitOne K (.ref A.BadText) (.ref A.BadWish) = some false
  i_BadText_BadNumber : PySem.W.kitOne K (.ref A.BadText) (.ref A.BadNumber) = some false
  i_BadText_Known : PySem.W.kitOne K (.ref A.BadText) (.ref A.Known) = some false
  i_BadText_Stranger : PySem.W.kitOne K (.ref A.BadText) (.ref A.Stranger) = some false
  i_BadText_Outside : PySem.W.kitOne K (.ref A.BadText) (.ref A.Outside) = some false
  i_BadText_Inside : PySem.W.kitOne K (.ref A.BadText) (.ref A.Inside) = some false
  i_BadText_Reads : PySem.W.kitOne K (.ref A.BadText) (.ref A.Reads) = some false
  i_BadText_Writes : PySem.W.kitOne K (.ref A.BadText) (.ref A.Writes) = some false
  i_BadText_Asked : PySem.W.kitOne K (.ref A.BadText) (.ref A.Asked) = some false
  i_BadText_BadText : PySem.W.kitOne K (.ref A.BadText) (.ref A.BadText) = some true
  i_BadText_BadJournal : PySem.W.kitOne K (.ref A.BadText) (.ref A.BadJournal) = some false
  i_BadText_ValueError : PySem.W.kitOne K (.ref A.BadText) (.type "ValueError") = some true
theorem roomH_mark {k : Nat} {A : Around} (r : Room k A) (h : Option Value) : L2H.RoomH k (A.mark h) := ⟨r.dp, r.un⟩
theorem kind_BadText {K : PySem.W.Frag} {mg : Str → Option Value} {A : Adr} (T : Txt K mg A) : KindOf K A A.BadText 9 := ⟨T.ec_BadText, by decide, (fun i C h => match i, h with | 0, h => by cases h; exact T.i_BadText_BadName | 1, h => by cases h; exact T.i_BadText_BadWish | 2, h => by cases h; exact T.i_BadText_Known | 3, h => by cases h; exact T.i_BadText_Stranger | 4, h => by cases h; exact T.i_BadText_Outside | 5, h => by cases h; exact T.i_BadText_Inside | 6, h => by cases h; exact T.i_BadText_Reads | 7, h => by cases h; exact T.i_BadText_Writes | 8, h => by cases h; exact T.i_BadText_Asked | 9, h => by cases h; exact T.i_BadText_BadText | 10, h => by cases h; exact T.i_BadText_BadJournal | 11, h => by cases h; exact T.i_BadText_BadNumber | n + 12, h => by cases h), T.i_BadText_ValueError⟩
section
variable {P : Program} {w : World} {K : PySem.W.Frag} {mg : Str → Option Value} {base : Heap} {A : Adr}
abbrev s_l_cell_at : Stmt := topS 23
abbrev n_l_cell_at : List Str := ["_law_script", "_law_k"]
theorem sc_l_cell_at : FnScope n_l_cell_at ["_law_script", "_law_k"] (defScope s_l_cell_at) := ⟨rfl, rfl, rfl, by decide +kernel, rfl, by decide +kernel, by decide +kernel⟩
theorem ok_l_cell_at {f : Addr} {fd : FuncData} (F : Fun K "_law_cell_at" "_law_cell_at" s_l_cell_at f fd) (T : Txt K mg A)  : FnD P w K mg base 1 f fd ["_law_script", "_law_k"] m_l_cell_at := by
  refine DL.okD (N := n_l_cell_at) F sc_l_cell_at len_l_cell_at (by decide) (fun cdv Ar outer s H E hr => ?_) read_l_cell_at
  have hu := hu_of hr
  have hw := hr.units
  have nd := sc_l_cell_at.nd
  have tk : L2N.Takes (cxOf (L2N.CX P w) P w K mg base n_l_cell_at "_law_cell_at" (defScope s_l_cell_at) f cdv Ar outer s H E) (WE0 E) := L2N.takes_of rfl rfl rfl rfl
  have hp : PassesOwn (model P w) (Ar.deeper (envOfC "_law_cell_at" (defScope s_l_cell_at) s.heap.objs.size f cdv)) (envOfC "_law_cell_at" (defScope s_l_cell_at) s.heap.objs.size f cdv) (cxOf (L2N.CX P w) P w K mg base n_l_cell_at "_law_cell_at" (defScope s_l_cell_at) f cdv Ar outer s H E).xe := passes_of (X := cxOf (L2N.CX P w) P w K mg base n_l_cell_at "_law_cell_at" (defScope s_l_cell_at) f cdv Ar outer s H E) rfl
  exact (pdss_cons (pds_if (pdt_lt (pd_v 1) (pd_callB call_len l_len rfl T.b_len (by decide +kernel) (pda_cons (pd_v 0) pda_nil))) (pdss_one (pds_ret (pd_ix hu (pd_v 0) (pd_v 1)))) pdss_nil)
      (pdss_one (pds_ret pd_int)))
abbrev s_is_wish : Stmt := topS 18
abbrev n_is_wish : List Str := ["thing"]
theorem sc_is_wish : FnScope n_is_wish ["thing"] (defScope s_is_wish) := ⟨rfl, rfl, rfl, by decide +kernel, rfl, by decide +kernel, by decide +kernel⟩
theorem okh_is_wish {f : Addr} {fd : FuncData} (F : Fun K "is_wish" "is_wish" s_is_wish f fd) (T : Txt K mg A)  : FnGD P w K mg base (fun a => CXv P w (.ref a)) 1 f fd ["thing"] (fun _ _ => m_is_wish) := by
  refine DL.okG (N := n_is_wish) F sc_is_wish (fun _ _ => len_is_wish) (by decide) (fun cdv Ar outer s H E ea ec l hot hr => ?_) (fun _ _ => read_is_wish)
  have hc : DL.HotX (cxG (CXv P w (.ref ea)) P w K mg base n_is_wish "is_wish" (defScope s_is_wish) f cdv Ar outer s H E l) ea ec := hot.x
  have hu := hu_ofG hr
  have hw := hw_ofG hr
  have nd := sc_is_wish.nd
  have tk : TakesV (.ref ea) (cxG (CXv P w (.ref ea)) P w K mg base n_is_wish "is_wish" (defScope s_is_wish) f cdv Ar outer s H E l) (WE0 E) := takesV_of rfl rfl rfl rfl
  have hp : PassesOwn (model P w) (Ar.deeper (envOfC "is_wish" (defScope s_is_wish) s.heap.objs.size f cdv)) (envOfC "is_wish" (defScope s_is_wish) s.heap.objs.size f cdv) (cxG (CXv P w (.ref ea)) P w K mg base n_is_wish "is_wish" (defScope s_is_wish) f cdv Ar outer s H E l).xe := passes_of (X := (cxG (CXv P w (.ref ea)) P w K mg base n_is_wish "is_wish" (defScope s_is_wish) f cdv Ar outer s H E l)) rfl
  exact (pdss_one (pds_ret (pd_and (pd_callB call_isi l_isi rfl T.b_isinstance (by decide +kernel) (pda_cons (pd_v 0) (pda_cons (pd_bltn rfl T.b_str (by decide +kernel)) pda_nil))) (pd_one (pd_or (pd_eq hw (pd_v 0) (pd_str (by decide +kernel))) (pd_one (pd_eq hw (pd_v 0) (pd_str (by decide +kernel)))))))))
theorem ok_is_wish {f : Addr} {fd : FuncData} (F : Fun K "is_wish" "is_wish" s_is_wish f fd) (T : Txt K mg A)  : FnD P w K mg base 1 f fd ["thing"] m_is_wish := by
  refine DL.okD (N := n_is_wish) F sc_is_wish len_is_wish (by decide) (fun cdv Ar outer s H E hr => ?_) read_is_wish
  have hu := hu_of hr
  have hw := hr.units
  have nd := sc_is_wish.nd
  have tk : L2N.Takes (cxOf (L2N.CX P w) P w K mg base n_is_wish "is_wish" (defScope s_is_wish) f cdv Ar outer s H E) (WE0 E) := L2N.takes_of rfl rfl rfl rfl
  have hp : PassesOwn (model P w) (Ar.deeper (envOfC "is_wish" (defScope s_is_wish) s.heap.objs.size f cdv)) (envOfC "is_wish" (defScope s_is_wish) s.heap.objs.size f cdv) (cxOf (L2N.CX P w) P w K mg base n_is_wish "is_wish" (defScope s_is_wish) f cdv Ar outer s H E).xe := passes_of (X := cxOf (L2N.CX P w) P w K mg base n_is_wish "is_wish" (defScope s_is_wish) f cdv Ar outer s H E) rfl
  exact (pdss_one (pds_ret (pd_and (pd_callB call_isi l_isi rfl T.b_isinstance (by decide +kernel) (pda_cons (pd_v 0) (pda_cons (pd_bltn rfl T.b_str (by decide +kernel)) pda_nil))) (pd_one (pd_or (pd_eq hw (pd_v 0) (pd_str (by decide +kernel))) (pd_one (pd_eq hw (pd_v 0) (pd_str (by decide +kernel)))))))))
abbrev s_is_name : Stmt := topS 17
abbrev n_is_name : List Str := ["thing", "sign"]
theorem sc_is_name : FnScope n_is_name ["thing"] (defScope s_is_name) := ⟨rfl, rfl, rfl, by decide +kernel, rfl, by decide +kernel, by decide +kernel⟩
theorem okh_is_name {f : Addr} {fd : FuncData} (F : Fun K "is_name" "is_name" s_is_name f fd) (T : Txt K mg A)  : FnGD P w K mg base (fun a => CXv P w (.ref a)) 1 f fd ["thing"] (fun _ _ => m_is_name) := by
  refine DL.okG (N := n_is_name) F sc_is_name (fun _ _ => len_is_name) (by decide) (fun cdv Ar outer s H E ea ec l hot hr => ?_) (fun _ _ => read_is_name)
  have hc : DL.HotX (cxG (CXv P w (.ref ea)) P w K mg base n_is_name "is_name" (defScope s_is_name) f cdv Ar outer s H E l) ea ec := hot.x
  have hu := hu_ofG hr
  have hw := hw_ofG hr
  have nd := sc_is_name.nd
  have tk : TakesV (.ref ea) (cxG (CXv P w (.ref ea)) P w K mg base n_is_name "is_name" (defScope s_is_name) f cdv Ar outer s H E l) (WE0 E) := takesV_of rfl rfl rfl rfl
  have hp : PassesOwn (model P w) (Ar.deeper (envOfC "is_name" (defScope s_is_name) s.heap.objs.size f cdv)) (envOfC "is_name" (defScope s_is_name) s.heap.objs.size f cdv) (cxG (CXv P w (.ref ea)) P w K mg base n_is_name "is_name" (defScope s_is_name) f cdv Ar outer s H E l).xe := passes_of (X := (cxG (CXv P w (.ref ea)) P w K mg base n_is_name "is_name" (defScope s_is_name) f cdv Ar outer s H E l)) rfl
  exact (pdss_cons (pds_if (pdt_w (pdw_or (pdt_not (pdt_val (pd_callB call_isi l_isi rfl T.b_isinstance (by decide +kernel) (pda_cons (pd_v 0) (pda_cons (pd_bltn rfl T.b_str (by decide +kernel)) pda_nil))))) (pdw_or1 (pdt_not (pdt_chain op_le op_le l_cmp l_cmp pd_int (pd_callB call_len l_len rfl T.b_len (by decide +kernel) (pda_cons (pd_v 0) pda_nil)) (pd_globE (v := .int 12) rfl T.mg_LONGEST (fun _ => .int _))))))) (pdss_one (pds_ret pd_bl)) pdss_nil)
      (pdss_cons (pds_forGS hp hc (pd_v 0) (pdg_name (i := 1) nd rfl (Or.inl rfl)) (pdss_one (pds_if (pdt_notIn (pd_v 1) (pd_globE (v := .str "abcdefghijklmnopqrstuvwxyz0123456789") rfl T.mg_SIGNS (fun _ => .str _ (by decide +kernel)))) (pdss_one (pds_ret pd_bl)) pdss_nil)))
      (pdss_one (pds_ret pd_bl))))
theorem ok_is_name {f : Addr} {fd : FuncData} (F : Fun K "is_name" "is_name" s_is_name f fd) (T : Txt K mg A)  : FnD P w K mg base 1 f fd ["thing"] m_is_name := by
  refine DL.okD (N := n_is_name) F sc_is_name len_is_name (by decide) (fun cdv Ar outer s H E hr => ?_) read_is_name
  have hu := hu_of hr
  have hw := hr.units
  have nd := sc_is_name.nd
  have tk : L2N.Takes (cxOf (L2N.CX P w) P w K mg base n_is_name "is_name" (defScope s_is_name) f cdv Ar outer s H E) (WE0 E) := L2N.takes_of rfl rfl rfl rfl
  have hp : PassesOwn (model P w) (Ar.deeper (envOfC "is_name" (defScope s_is_name) s.heap.objs.size f cdv)) (envOfC "is_name" (defScope s_is_name) s.heap.objs.size f cdv) (cxOf (L2N.CX P w) P w K mg base n_is_name "is_name" (defScope s_is_name) f cdv Ar outer s H E).xe := passes_of (X := cxOf (L2N.CX P w) P w K mg base n_is_name "is_name" (defScope s_is_name) f cdv Ar outer s H E) rfl
  exact (pdss_cons (pds_if (pdt_w (pdw_or (pdt_not (pdt_val (pd_callB call_isi l_isi rfl T.b_isinstance (by decide +kernel) (pda_cons (pd_v 0) (pda_cons (pd_bltn rfl T.b_str (by decide +kernel)) pda_nil))))) (pdw_or1 (pdt_not (pdt_chain op_le op_le l_cmp l_cmp pd_int (pd_callB call_len l_len rfl T.b_len (by decide +kernel) (pda_cons (pd_v 0) pda_nil)) (pd_globE (v := .int 12) rfl T.mg_LONGEST (fun _ => .int _))))))) (pdss_one (pds_ret pd_bl)) pdss_nil)
      (pdss_cons (pds_for hp rfl (pdi_signs (pd_v 0)) (pdg_name (i := 1) nd rfl (Or.inl rfl)) (pdss_one (pds_if (pdt_notIn (pd_v 1) (pd_globE (v := .str "abcdefghijklmnopqrstuvwxyz0123456789") rfl T.mg_SIGNS (fun _ => .str _ (by decide +kernel)))) (pdss_one (pds_ret pd_bl)) pdss_nil)))
      (pdss_one (pds_ret pd_bl))))
abbrev s_read_row : Stmt := topS 20
abbrev n_read_row : List Str := ["line", "words"]
theorem sc_read_row : FnScope n_read_row ["line"] (defScope s_read_row) := ⟨rfl, rfl, rfl, by decide +kernel, rfl, by decide +kernel, by decide +kernel⟩
theorem okh_read_row {f : Addr} {fd : FuncData} (F : Fun K "read_row" "read_row" s_read_row f fd) (T : Txt K mg A) (k_is_wish : HasG P w K mg base (fun a => CXv P w (.ref a)) "is_wish" ["thing"] 1 (fun _ _ => m_is_wish)) (k_is_name : HasG P w K mg base (fun a => CXv P w (.ref a)) "is_name" ["thing"] 1 (fun _ _ => m_is_name)) : FnGD P w K mg base (fun a => CXv P w (.ref a)) 2 f fd ["line"] (fun _ _ => (m_read_row A)) := by
  refine DL.okG (N := n_read_row) F sc_read_row (fun _ _ => (len_read_row A)) (by decide) (fun cdv Ar outer s H E ea ec l hot hr => ?_) (fun _ _ => (read_read_row A))
  have hc : DL.HotX (cxG (CXv P w (.ref ea)) P w K mg base n_read_row "read_row" (defScope s_read_row) f cdv Ar outer s H E l) ea ec := hot.x
  have hu := hu_ofG hr
  have hw := hw_ofG hr
  have nd := sc_read_row.nd
  have tk : TakesV (.ref ea) (cxG (CXv P w (.ref ea)) P w K mg base n_read_row "read_row" (defScope s_read_row) f cdv Ar outer s H E l) (WE0 E) := takesV_of rfl rfl rfl rfl
  have hp : PassesOwn (model P w) (Ar.deeper (envOfC "read_row" (defScope s_read_row) s.heap.objs.size f cdv)) (envOfC "read_row" (defScope s_read_row) s.heap.objs.size f cdv) (cxG (CXv P w (.ref ea)) P w K mg base n_read_row "read_row" (defScope s_read_row) f cdv Ar outer s H E l).xe := passes_of (X := (cxG (CXv P w (.ref ea)) P w K mg base n_read_row "read_row" (defScope s_read_row) f cdv Ar outer s H E l)) rfl
  exact (pdss_cons (pds_set (i := 1) nd rfl (Or.inl rfl) (pd_m1 PySem.F.slot_str_split PySem.F.type_str_split mt_split l_split (pd_v 0) (pd_str (by decide +kernel))))
      (pdss_cons (pds_if (pdt_w (pdw_and (pdt_eq hw (pd_callB call_len l_len rfl T.b_len (by decide +kernel) (pda_cons (pd_v 1) pda_nil)) pd_int) (pdw_and1 (pdt_w (pdw_or (pdt_eq hw (pd_ix hu (pd_v 1) pd_int) (pd_str (by decide +kernel))) (pdw_or1 (pdt_eq hw (pd_ix hu (pd_v 1) pd_int) (pd_str (by decide +kernel))))))))) (pdss_one (pds_if (pdt_w (pdw_and (pdt_val (pd_callG hc k_is_name (hr.mono (by decide)) (fun σ => passAtV tk σ) rfl (pda_cons (pd_ix hu (pd_v 1) pd_int) pda_nil))) (pdw_and1 (pdt_val (pd_callG hc k_is_wish (hr.mono (by decide)) (fun σ => passAtV tk σ) rfl (pda_cons (pd_ix hu (pd_v 1) pd_int) pda_nil)))))) (pdss_one (pds_ret (pd_tup (pda_cons (pd_ix hu (pd_v 1) pd_int) (pda_cons (pd_ix hu (pd_v 1) pd_int) (pda_cons (pd_ix hu (pd_v 1) pd_int) pda_nil)))))) pdss_nil)) pdss_nil)
      (pdss_cons (pds_if (pdt_w (pdw_and (pdt_eq hw (pd_callB call_len l_len rfl T.b_len (by decide +kernel) (pda_cons (pd_v 1) pda_nil)) pd_int) (pdw_and1 (pdt_w (pdw_or (pdt_eq hw (pd_ix hu (pd_v 1) pd_int) (pd_str (by decide +kernel))) (pdw_or (pdt_eq hw (pd_ix hu (pd_v 1) pd_int) (pd_str (by decide +kernel))) (pdw_or1 (pdt_eq hw (pd_ix hu (pd_v 1) pd_int) (pd_str (by decide +kernel)))))))))) (pdss_one (pds_if (pdt_val (pd_callG hc k_is_name (hr.mono (by decide)) (fun σ => passAtV tk σ) rfl (pda_cons (pd_ix hu (pd_v 1) pd_int) pda_nil))) (pdss_one (pds_ret (pd_tup (pda_cons (pd_ix hu (pd_v 1) pd_int) (pda_cons (pd_ix hu (pd_v 1) pd_int) pda_nil))))) pdss_nil)) pdss_nil)
      (pdss_one (pds_raiseG hc tk PySem.F.excBase_ValueError T.x_BadText T.mg_BadText T.k_BadText (raises_own T.s_BadText T.t_BadText) rfl)))))
theorem ok_read_row {f : Addr} {fd : FuncData} (F : Fun K "read_row" "read_row" s_read_row f fd) (T : Txt K mg A) (h_is_wish : Has P w K mg base "is_wish" ["thing"] 1 m_is_wish) (h_is_name : Has P w K mg base "is_name" ["thing"] 1 m_is_name) : FnD P w K mg base 2 f fd ["line"] (m_read_row A) := by
  refine DL.okD (N := n_read_row) F sc_read_row (len_read_row A) (by decide) (fun cdv Ar outer s H E hr => ?_) (read_read_row A)
  have hu := hu_of hr
  have hw := hr.units
  have nd := sc_read_row.nd
  have tk : L2N.Takes (cxOf (L2N.CX P w) P w K mg base n_read_row "read_row" (defScope s_read_row) f cdv Ar outer s H E) (WE0 E) := L2N.takes_of rfl rfl rfl rfl
  have hp : PassesOwn (model P w) (Ar.deeper (envOfC "read_row" (defScope s_read_row) s.heap.objs.size f cdv)) (envOfC "read_row" (defScope s_read_row) s.heap.objs.size f cdv) (cxOf (L2N.CX P w) P w K mg base n_read_row "read_row" (defScope s_read_row) f cdv Ar outer s H E).xe := passes_of (X := cxOf (L2N.CX P w) P w K mg base n_read_row "read_row" (defScope s_read_row) f cdv Ar outer s H E) rfl
  exact (pdss_cons (pds_set (i := 1) nd rfl (Or.inl rfl) (pd_m1 PySem.F.slot_str_split PySem.F.type_str_split mt_split l_split (pd_v 0) (pd_str (by decide +kernel))))
      (pdss_cons (pds_if (pdt_w (pdw_and (pdt_eq hw (pd_callB call_len l_len rfl T.b_len (by decide +kernel) (pda_cons (pd_v 1) pda_nil)) pd_int) (pdw_and1 (pdt_w (pdw_or (pdt_eq hw (pd_ix hu (pd_v 1) pd_int) (pd_str (by decide +kernel))) (pdw_or1 (pdt_eq hw (pd_ix hu (pd_v 1) pd_int) (pd_str (by decide +kernel))))))))) (pdss_one (pds_if (pdt_w (pdw_and (pdt_val (pd_callH tk h_is_name (hr.mono (by decide)) rfl (pda_cons (pd_ix hu (pd_v 1) pd_int) pda_nil))) (pdw_and1 (pdt_val (pd_callH tk h_is_wish (hr.mono (by decide)) rfl (pda_cons (pd_ix hu (pd_v 1) pd_int) pda_nil)))))) (pdss_one (pds_ret (pd_tup (pda_cons (pd_ix hu (pd_v 1) pd_int) (pda_cons (pd_ix hu (pd_v 1) pd_int) (pda_cons (pd_ix hu (pd_v 1) pd_int) pda_nil)))))) pdss_nil)) pdss_nil)
      (pdss_cons (pds_if (pdt_w (pdw_and (pdt_eq hw (pd_callB call_len l_len rfl T.b_len (by decide +kernel) (pda_cons (pd_v 1) pda_nil)) pd_int) (pdw_and1 (pdt_w (pdw_or (pdt_eq hw (pd_ix hu (pd_v 1) pd_int) (pd_str (by decide +kernel))) (pdw_or (pdt_eq hw (pd_ix hu (pd_v 1) pd_int) (pd_str (by decide +kernel))) (pdw_or1 (pdt_eq hw (pd_ix hu (pd_v 1) pd_int) (pd_str (by decide +kernel)))))))))) (pdss_one (pds_if (pdt_val (pd_callH tk h_is_name (hr.mono (by decide)) rfl (pda_cons (pd_ix hu (pd_v 1) pd_int) pda_nil))) (pdss_one (pds_ret (pd_tup (pda_cons (pd_ix hu (pd_v 1) pd_int) (pda_cons (pd_ix hu (pd_v 1) pd_int) pda_nil))))) pdss_nil)) pdss_nil)
      (pdss_one (pds_raise tk rfl PySem.F.excBase_ValueError T.x_BadText T.mg_BadText T.k_BadText (raises_own T.s_BadText T.t_BadText) rfl)))))
abbrev s_read : Stmt := topS 21
abbrev n_read : List Str := ["text", "lines", "line"]
theorem sc_read : FnScope n_read ["text"] (defScope s_read) := ⟨rfl, rfl, rfl, by decide +kernel, rfl, by decide +kernel, by decide +kernel⟩
theorem okh_read {f : Addr} {fd : FuncData} (F : Fun K "read" "read" s_read f fd) (T : Txt K mg A) (k_read_row : HasG P w K mg base (fun a => CXv P w (.ref a)) "read_row" ["line"] 2 (fun _ _ => (m_read_row A))) : FnGD P w K mg base (fun a => CXv P w (.ref a)) 3 f fd ["text"] (fun _ _ => (m_read A)) := by
  refine DL.okG (N := n_read) F sc_read (fun _ _ => (len_read A)) (by decide) (fun cdv Ar outer s H E ea ec l hot hr => ?_) (fun _ _ => (read_read A))
  have hc : DL.HotX (cxG (CXv P w (.ref ea)) P w K mg base n_read "read" (defScope s_read) f cdv Ar outer s H E l) ea ec := hot.x
  have hu := hu_ofG hr
  have hw := hw_ofG hr
  have nd := sc_read.nd
  have tk : TakesV (.ref ea) (cxG (CXv P w (.ref ea)) P w K mg base n_read "read" (defScope s_read) f cdv Ar outer s H E l) (WE0 E) := takesV_of rfl rfl rfl rfl
  have hp : PassesOwn (model P w) (Ar.deeper (envOfC "read" (defScope s_read) s.heap.objs.size f cdv)) (envOfC "read" (defScope s_read) s.heap.objs.size f cdv) (cxG (CXv P w (.ref ea)) P w K mg base n_read "read" (defScope s_read) f cdv Ar outer s H E l).xe := passes_of (X := (cxG (CXv P w (.ref ea)) P w K mg base n_read "read" (defScope s_read) f cdv Ar outer s H E l)) rfl
  exact (pdss_cons (pds_if (pdt_not (pdt_val (pd_callB call_isi l_isi rfl T.b_isinstance (by decide +kernel) (pda_cons (pd_v 0) (pda_cons (pd_bltn rfl T.b_str (by decide +kernel)) pda_nil))))) (pdss_one (pds_raiseG hc tk PySem.F.excBase_ValueError T.x_BadText T.mg_BadText T.k_BadText (raises_own T.s_BadText T.t_BadText) rfl)) pdss_nil)
      (pdss_cons (pds_set (i := 1) nd rfl (Or.inl rfl) (pd_m1 PySem.F.slot_str_split PySem.F.type_str_split mt_split l_split (pd_v 0) (pd_str (by decide +kernel))))
      (pdss_cons (pds_if (pdt_ne hw (pd_ix hu (pd_v 1) (pd_neg pd_int)) (pd_str (by decide +kernel))) (pdss_one (pds_raiseG hc tk PySem.F.excBase_ValueError T.x_BadText T.mg_BadText T.k_BadText (raises_own T.s_BadText T.t_BadText) rfl)) pdss_nil)
      (pdss_one (pds_ret (pd_lcX (cv := .ref ea) (x := "line") (i := 2) rfl rfl nd tk (pd_slice (pd_v 1) pdo_none (pdo_some (pd_neg pd_int))) (blkOk_by (own := [("line", 2)]) (N := n_read) (sc := defScope s_read) (by decide +kernel)) (fun _ _ _ _ _ _ => endL_hot (DL.HotX.blk hc)) (fun _ _ _ _ _ _ => pg_name (i := 2) nd rfl (Or.inl rfl)) (fun _ _ _ _ _ Wb xe ps => (pd_callG (DL.HotX.blk hc) k_read_row (hr.mono (by decide)) ps rfl (pda_cons (pd_v 2) pda_nil)))))))))
theorem ok_read {f : Addr} {fd : FuncData} (F : Fun K "read" "read" s_read f fd) (T : Txt K mg A) (h_read_row : Has P w K mg base "read_row" ["line"] 2 (m_read_row A)) : FnD P w K mg base 3 f fd ["text"] (m_read A) := by
  refine DL.okD (N := n_read) F sc_read (len_read A) (by decide) (fun cdv Ar outer s H E hr => ?_) (read_read A)
  have hu := hu_of hr
  have hw := hr.units
  have nd := sc_read.nd
  have tk : L2N.Takes (cxOf (L2N.CX P w) P w K mg base n_read "read" (defScope s_read) f cdv Ar outer s H E) (WE0 E) := L2N.takes_of rfl rfl rfl rfl
  have hp : PassesOwn (model P w) (Ar.deeper (envOfC "read" (defScope s_read) s.heap.objs.size f cdv)) (envOfC "read" (defScope s_read) s.heap.objs.size f cdv) (cxOf (L2N.CX P w) P w K mg base n_read "read" (defScope s_read) f cdv Ar outer s H E).xe := passes_of (X := cxOf (L2N.CX P w) P w K mg base n_read "read" (defScope s_read) f cdv Ar outer s H E) rfl
  exact (pdss_cons (pds_if (pdt_not (pdt_val (pd_callB call_isi l_isi rfl T.b_isinstance (by decide +kernel) (pda_cons (pd_v 0) (pda_cons (pd_bltn rfl T.b_str (by decide +kernel)) pda_nil))))) (pdss_one (pds_raise tk rfl PySem.F.excBase_ValueError T.x_BadText T.mg_BadText T.k_BadText (raises_own T.s_BadText T.t_BadText) rfl)) pdss_nil)
      (pdss_cons (pds_set (i := 1) nd rfl (Or.inl rfl) (pd_m1 PySem.F.slot_str_split PySem.F.type_str_split mt_split l_split (pd_v 0) (pd_str (by decide +kernel))))
      (pdss_cons (pds_if (pdt_ne hw (pd_ix hu (pd_v 1) (pd_neg pd_int)) (pd_str (by decide +kernel))) (pdss_one (pds_raise tk rfl PySem.F.excBase_ValueError T.x_BadText T.mg_BadText T.k_BadText (raises_own T.s_BadText T.t_BadText) rfl)) pdss_nil)
      (pdss_one (pds_ret (pd_lcX (cv := .none) (x := "line") (i := 2) rfl rfl nd (takesV_N tk) (pd_slice (pd_v 1) pdo_none (pdo_some (pd_neg pd_int))) (blkOk_by (own := [("line", 2)]) (N := n_read) (sc := defScope s_read) (by decide +kernel)) (fun _ _ _ _ _ _ => endL_calm rfl) (fun _ _ _ _ _ _ => pg_name (i := 2) nd rfl (Or.inl rfl)) (fun _ _ _ _ _ Wb xe ps => (pd_callP (fun σ => passN_V (ps σ)) h_read_row (hr.mono (by decide)) rfl (pda_cons (pd_v 2) pda_nil)))))))))
abbrev s_l_kinds : Stmt := topS 32
abbrev n_l_kinds : List Str := ["_law_e", "_law_found", "_law_marks", "_law_k"]
theorem sc_l_kinds : FnScope n_l_kinds ["_law_e"] (defScope s_l_kinds) := ⟨rfl, rfl, rfl, by decide +kernel, rfl, by decide +kernel, by decide +kernel⟩
theorem okh_l_kinds {f : Addr} {fd : FuncData} (F : Fun K "_law_kinds" "_law_kinds" s_l_kinds f fd) (T : Txt K mg A)  : FnGD P w K mg base (fun a => CXv P w (.ref a)) 1 f fd ["_law_e"] (m_l_kinds K A) := by
  refine DL.okG (N := n_l_kinds) F sc_l_kinds (len_l_kinds K A) (by decide) (fun cdv Ar outer s H E ea ec l hot hr => ?_) (read_l_kinds K A)
  have hc : DL.HotX (cxG (CXv P w (.ref ea)) P w K mg base n_l_kinds "_law_kinds" (defScope s_l_kinds) f cdv Ar outer s H E l) ea ec := hot.x
  have hu := hu_ofG hr
  have hw := hw_ofG hr
  have nd := sc_l_kinds.nd
  have tk : TakesV (.ref ea) (cxG (CXv P w (.ref ea)) P w K mg base n_l_kinds "_law_kinds" (defScope s_l_kinds) f cdv Ar outer s H E l) (WE0 E) := takesV_of rfl rfl rfl rfl
  have hp : PassesOwn (model P w) (Ar.deeper (envOfC "_law_kinds" (defScope s_l_kinds) s.heap.objs.size f cdv)) (envOfC "_law_kinds" (defScope s_l_kinds) s.heap.objs.size f cdv) (cxG (CXv P w (.ref ea)) P w K mg base n_l_kinds "_law_kinds" (defScope s_l_kinds) f cdv Ar outer s H E l).xe := passes_of (X := (cxG (CXv P w (.ref ea)) P w K mg base n_l_kinds "_law_kinds" (defScope s_l_kinds) f cdv Ar outer s H E l)) rfl
  exact (pdss_cons (pds_set (i := 1) nd rfl (Or.inl rfl) (pd_lstM pda_nil))
      (pdss_cons (pds_set (i := 2) nd rfl (Or.inl rfl) (pd_lstM (pda_cons (pd_callB (call_isEG hc) l_isE rfl T.b_isinstance (by decide +kernel) (pda_cons (pd_v 0) (pda_cons (pd_cls rfl T.mg_BadName) pda_nil))) (pda_cons (pd_callB (call_isEG hc) l_isE rfl T.b_isinstance (by decide +kernel) (pda_cons (pd_v 0) (pda_cons (pd_cls rfl T.mg_BadWish) pda_nil))) (pda_cons (pd_callB (call_isEG hc) l_isE rfl T.b_isinstance (by decide +kernel) (pda_cons (pd_v 0) (pda_cons (pd_cls rfl T.mg_Known) pda_nil))) (pda_cons (pd_callB (call_isEG hc) l_isE rfl T.b_isinstance (by decide +kernel) (pda_cons (pd_v 0) (pda_cons (pd_cls rfl T.mg_Stranger) pda_nil))) pda_nil))))))
      (pdss_cons (pds_set (i := 2) nd rfl (Or.inl rfl) (pd_addM (pd_v 2) (pd_lst (pda_cons (pd_callB (call_isEG hc) l_isE rfl T.b_isinstance (by decide +kernel) (pda_cons (pd_v 0) (pda_cons (pd_cls rfl T.mg_Outside) pda_nil))) (pda_cons (pd_callB (call_isEG hc) l_isE rfl T.b_isinstance (by decide +kernel) (pda_cons (pd_v 0) (pda_cons (pd_cls rfl T.mg_Inside) pda_nil))) (pda_cons (pd_callB (call_isEG hc) l_isE rfl T.b_isinstance (by decide +kernel) (pda_cons (pd_v 0) (pda_cons (pd_cls rfl T.mg_Reads) pda_nil))) (pda_cons (pd_callB (call_isEG hc) l_isE rfl T.b_isinstance (by decide +kernel) (pda_cons (pd_v 0) (pda_cons (pd_cls rfl T.mg_Writes) pda_nil))) pda_nil)))))))
      (pdss_cons (pds_set (i := 2) nd rfl (Or.inl rfl) (pd_addM (pd_v 2) (pd_lst (pda_cons (pd_callB (call_isEG hc) l_isE rfl T.b_isinstance (by decide +kernel) (pda_cons (pd_v 0) (pda_cons (pd_cls rfl T.mg_Asked) pda_nil))) (pda_cons (pd_callB (call_isEG hc) l_isE rfl T.b_isinstance (by decide +kernel) (pda_cons (pd_v 0) (pda_cons (pd_cls rfl T.mg_BadText) pda_nil))) (pda_cons (pd_callB (call_isEG hc) l_isE rfl T.b_isinstance (by decide +kernel) (pda_cons (pd_v 0) (pda_cons (pd_cls rfl T.mg_BadJournal) pda_nil))) pda_nil))))))
      (pdss_cons (pds_expr (pd_bmL PySem.F.plainAttrs_list PySem.F.slot_list_append PySem.F.type_list_append mt_append l_append (pd_v 2) (pda_cons (pd_callB (call_isEG hc) l_isE rfl T.b_isinstance (by decide +kernel) (pda_cons (pd_v 0) (pda_cons (pd_cls rfl T.mg_BadNumber) pda_nil))) pda_nil)))
      (pdss_cons (pds_forG hp hc rfl T.b_range (pda_cons (pd_callB call_len l_len rfl T.b_len (by decide +kernel) (pda_cons (pd_v 2) pda_nil)) pda_nil) (pdg_name (i := 3) nd rfl (Or.inl rfl)) (pdss_one (pds_if (pdt_val (pd_ix hu (pd_v 2) (pd_v 3))) (pdss_one (pds_expr (pd_bmL PySem.F.plainAttrs_list PySem.F.slot_list_append PySem.F.type_list_append mt_append l_append (pd_v 1) (pda_cons (pd_v 3) pda_nil)))) pdss_nil)))
      (pdss_one (pds_ret (pd_frz (pd_v 1))))))))))
abbrev s_l_refused : Stmt := topS 33
abbrev n_l_refused : List Str := ["_law_thing", "_law_e"]
theorem sc_l_refused : FnScope n_l_refused ["_law_thing"] (defScope s_l_refused) := ⟨rfl, rfl, rfl, by decide +kernel, rfl, by decide +kernel, by decide +kernel⟩
theorem ok_l_refused {f : Addr} {fd : FuncData} (F : Fun K "_law_refused" "_law_refused" s_l_refused f fd) (T : Txt K mg A) (h_read : Has P w K mg base "read" ["text"] 3 (m_read A)) (k_read : HasG P w K mg base (fun a => CXv P w (.ref a)) "read" ["text"] 3 (fun _ _ => (m_read A))) (k_l_kinds : HasG P w K mg base (fun a => CXv P w (.ref a)) "_law_kinds" ["_law_e"] 1 (m_l_kinds K A)) : FnD P w K mg base 4 f fd ["_law_thing"] (m_l_refused A) := by
  refine DL.okD (N := n_l_refused) F sc_l_refused (len_l_refused A) (by decide) (fun cdv Ar outer s H E hr => ?_) (read_l_refused K A T.e_BadText_BadText T.e_BadText_RoomError (kind_BadText T))
  have hu := hu_of hr
  have hw := hr.units
  have nd := sc_l_refused.nd
  have tk : L2N.Takes (cxOf (L2N.CX P w) P w K mg base n_l_refused "_law_refused" (defScope s_l_refused) f cdv Ar outer s H E) (WE0 E) := L2N.takes_of rfl rfl rfl rfl
  have hp : PassesOwn (model P w) (Ar.deeper (envOfC "_law_refused" (defScope s_l_refused) s.heap.objs.size f cdv)) (envOfC "_law_refused" (defScope s_l_refused) s.heap.objs.size f cdv) (cxOf (L2N.CX P w) P w K mg base n_l_refused "_law_refused" (defScope s_l_refused) f cdv Ar outer s H E).xe := passes_of (X := cxOf (L2N.CX P w) P w K mg base n_l_refused "_law_refused" (defScope s_l_refused) f cdv Ar outer s H E) rfl
  exact (pdss_cons (pds_tryH rfl rfl ⟨rfl, by decide, .inl T.mg_BadText⟩ tk (fun _ _ _ tk hp => (pdss_one (pds_expr (pd_callH tk h_read (hr.mono (by decide)) rfl (pda_cons (pd_v 0) pda_nil))))) (fun ea1 ec1 oe1 pn1 hz1 hf1 => (pdss_one (pds_tryAsG (i := 1) (cv := .ref ea1) rfl rfl nd rfl rfl ⟨rfl, by decide, .inl T.mg_RoomError⟩ (fun _ _ _ sub1 tk hp => (pdss_one (pds_expr (pd_callG ((hot_suite1 hz1 hf1).tr sub1).x k_read (roomH_mark (hr.mono (by decide)) _) (fun σ => passAtV tk σ) rfl (pda_cons (pd_v 0) pda_nil))))) (fun ea ec oe2 pn2 sub2 hz hf => (pdss_one (pds_ret (pd_and (pd_eq hw (pd_callG (hot_suite2 (hot_suite1 hz1 hf1) sub2 hz hf) k_l_kinds (roomH_mark2 (roomH_mark (hr.mono (by decide)) _) _) (fun _ => passV0) rfl (pda_cons (pd_v 1) pda_nil)) (pd_lst (pda_cons pd_int pda_nil))) (pd_one (pd_callB (call_isEG (hot_suite2 (hot_suite1 hz1 hf1) sub2 hz hf)) l_isE rfl T.b_isinstance (by decide +kernel) (pda_cons (pd_v 1) (pda_cons (pd_bltn rfl T.b_ValueError (by decide +kernel)) pda_nil))))))))))))
      (pdss_one (pds_ret pd_bl)))
abbrev s_l_people : Stmt := topS 24
abbrev n_l_people : List Str := ["_law_cell", "_law_many", "_law_some", "_law_head", "_law_rest", "_law_k", "_law_way", "_law_left", "_law_right"]
theorem sc_l_people : FnScope n_l_people ["_law_cell", "_law_many"] (defScope s_l_people) := ⟨rfl, rfl, rfl, by decide +kernel, rfl, by decide +kernel, by decide +kernel⟩
theorem ok_l_people {f : Addr} {fd : FuncData} (F : Fun K "_law_people" "_law_people" s_l_people f fd) (T : Txt K mg A)  : FnD P w K mg base 1 f fd ["_law_cell", "_law_many"] m_l_people := by
  refine DL.okD (N := n_l_people) F sc_l_people len_l_people (by decide) (fun cdv Ar outer s H E hr => ?_) read_l_people
  have hu := hu_of hr
  have hw := hr.units
  have nd := sc_l_people.nd
  have tk : L2N.Takes (cxOf (L2N.CX P w) P w K mg base n_l_people "_law_people" (defScope s_l_people) f cdv Ar outer s H E) (WE0 E) := L2N.takes_of rfl rfl rfl rfl
  have hp : PassesOwn (model P w) (Ar.deeper (envOfC "_law_people" (defScope s_l_people) s.heap.objs.size f cdv)) (envOfC "_law_people" (defScope s_l_people) s.heap.objs.size f cdv) (cxOf (L2N.CX P w) P w K mg base n_l_people "_law_people" (defScope s_l_people) f cdv Ar outer s H E).xe := passes_of (X := cxOf (L2N.CX P w) P w K mg base n_l_people "_law_people" (defScope s_l_people) f cdv Ar outer s H E) rfl
  exact (pdss_cons (pds_set (i := 2) nd rfl (Or.inr rfl) (pd_str (by decide +kernel)))
      (pdss_cons (pds_set (i := 3) nd rfl (Or.inr rfl) (pd_str (by decide +kernel)))
      (pdss_cons (pds_set (i := 4) nd rfl (Or.inl rfl) (pd_div (pd_v 0) pd_int))
      (pdss_cons (pds_for hp rfl (pdi_range1 rfl T.b_range (pda_cons pd_int pda_nil)) (pdg_name (i := 5) nd rfl (Or.inl rfl)) (pdss_cons (pds_set (i := 3) nd rfl (Or.inr rfl) (pd_add (pd_v 3) (pd_ix hu (pd_v 2) (pd_mod (pd_v 4) pd_int))))
      (pdss_one (pds_set (i := 4) nd rfl (Or.inl rfl) (pd_div (pd_v 4) pd_int)))))
      (pdss_cons (pds_set (i := 6) nd rfl (Or.inl rfl) (pd_mod (pd_v 0) pd_int))
      (pdss_cons (pds_if (pdt_w (pdw_and (pdt_eq hw (pd_v 6) pd_int) (pdw_and1 (pdt_lt (pd_v 1) pd_int)))) (pdss_one (pds_ret (pd_lc rfl nd (pdi_range1 rfl T.b_range (pda_cons (pd_v 1) pda_nil)) (blkOk_by (own := [("_law_k", 5)]) (N := n_l_people) (sc := defScope s_l_people) (by decide +kernel)) (fun _ _ _ _ _ => pg_name (i := 5) nd rfl (Or.inl rfl)) (fun _ _ _ _ _ => pdts_nil) (fun _ _ _ _ _ => (pd_slice (pd_v 3) pdo_none (pdo_some (pd_add (pd_v 5) pd_int))))))) pdss_nil)
      (pdss_cons (pds_if (pdt_w (pdw_and (pdt_eq hw (pd_v 6) pd_int) (pdw_and1 (pdt_lt (pd_v 1) pd_int)))) (pdss_one (pds_ret (pd_lc rfl nd (pdi_range1 rfl T.b_range (pda_cons (pd_v 1) pda_nil)) (blkOk_by (own := [("_law_k", 5)]) (N := n_l_people) (sc := defScope s_l_people) (by decide +kernel)) (fun _ _ _ _ _ => pg_name (i := 5) nd rfl (Or.inl rfl)) (fun _ _ _ _ _ => pdts_nil) (fun _ _ _ _ _ => (pd_slice (pd_v 3) (pdo_some (pd_sub pd_int (pd_v 5))) pdo_none))))) pdss_nil)
      (pdss_cons (pds_set (i := 3) nd rfl (Or.inr rfl) (pd_slice (pd_v 3) pdo_none (pdo_some (pd_mod (pd_div (pd_v 0) pd_int) pd_int))))
      (pdss_cons (pds_if (pdt_w (pdw_and (pdt_lt (pd_v 6) pd_int) (pdw_and1 (pdt_lt (pd_v 1) pd_int)))) (pdss_cons (pds_set (i := 7) nd rfl (Or.inr rfl) (pd_slice (pd_v 3) pdo_none (pdo_some (pd_mod (pd_div (pd_v 0) pd_int) (pd_add (pd_callB call_len l_len rfl T.b_len (by decide +kernel) (pda_cons (pd_v 3) pda_nil)) pd_int)))))
      (pdss_cons (pds_set (i := 8) nd rfl (Or.inr rfl) (pd_slice (pd_v 3) (pdo_some (pd_callB call_len l_len rfl T.b_len (by decide +kernel) (pda_cons (pd_v 7) pda_nil))) pdo_none))
      (pdss_one (pds_ret (pd_lc rfl nd (pdi_range1 rfl T.b_range (pda_cons (pd_v 1) pda_nil)) (blkOk_by (own := [("_law_k", 5)]) (N := n_l_people) (sc := defScope s_l_people) (by decide +kernel)) (fun _ _ _ _ _ => pg_name (i := 5) nd rfl (Or.inl rfl)) (fun _ _ _ _ _ => pdts_nil) (fun _ _ _ _ _ => (pd_add (pd_add (pd_v 7) (pd_ix hu (pd_v 2) (pd_mod (pd_add (pd_div (pd_v 0) pd_int) (pd_mul pd_int (pd_v 5))) pd_int))) (pd_v 8)))))))) pdss_nil)
      (pdss_cons (pds_set (i := 3) nd rfl (Or.inr rfl) (pd_slice (pd_v 3) pdo_none (pdo_some (pd_sub pd_int (pd_callTy call_int1 l_int1 rfl T.b_int (by decide +kernel) (pda_cons (pd_gt (pd_v 1) pd_int) pda_nil))))))
      (pdss_one (pds_ret (pd_lc rfl nd (pdi_range1 rfl T.b_range (pda_cons (pd_v 1) pda_nil)) (blkOk_by (own := [("_law_k", 5)]) (N := n_l_people) (sc := defScope s_l_people) (by decide +kernel)) (fun _ _ _ _ _ => pg_name (i := 5) nd rfl (Or.inl rfl)) (fun _ _ _ _ _ => pdts_nil) (fun _ _ _ _ _ => (pd_add (pd_v 3) (pd_callTy call_str_int l_str1 rfl T.b_str (by decide +kernel) (pda_cons (pd_v 5) pda_nil)))))))))))))))))
abbrev s_l_wish_by : Stmt := topS 25
abbrev n_l_wish_by : List Str := ["_law_cell"]
theorem sc_l_wish_by : FnScope n_l_wish_by ["_law_cell"] (defScope s_l_wish_by) := ⟨rfl, rfl, rfl, by decide +kernel, rfl, by decide +kernel, by decide +kernel⟩
theorem ok_l_wish_by {f : Addr} {fd : FuncData} (F : Fun K "_law_wish_by" "_law_wish_by" s_l_wish_by f fd) (T : Txt K mg A)  : FnD P w K mg base 1 f fd ["_law_cell"] m_l_wish_by := by
  refine DL.okD (N := n_l_wish_by) F sc_l_wish_by len_l_wish_by (by decide) (fun cdv Ar outer s H E hr => ?_) read_l_wish_by
  have hu := hu_of hr
  have hw := hr.units
  have nd := sc_l_wish_by.nd
  have tk : L2N.Takes (cxOf (L2N.CX P w) P w K mg base n_l_wish_by "_law_wish_by" (defScope s_l_wish_by) f cdv Ar outer s H E) (WE0 E) := L2N.takes_of rfl rfl rfl rfl
  have hp : PassesOwn (model P w) (Ar.deeper (envOfC "_law_wish_by" (defScope s_l_wish_by) s.heap.objs.size f cdv)) (envOfC "_law_wish_by" (defScope s_l_wish_by) s.heap.objs.size f cdv) (cxOf (L2N.CX P w) P w K mg base n_l_wish_by "_law_wish_by" (defScope s_l_wish_by) f cdv Ar outer s H E).xe := passes_of (X := cxOf (L2N.CX P w) P w K mg base n_l_wish_by "_law_wish_by" (defScope s_l_wish_by) f cdv Ar outer s H E) rfl
  exact (pdss_cons (pds_if (pdt_eq hw (pd_mod (pd_v 0) pd_int) pd_int) (pdss_one (pds_ret (pd_str (by decide +kernel)))) pdss_nil)
      (pdss_one (pds_ret (pd_str (by decide +kernel)))))
abbrev s_l_line_by : Stmt := topS 29
abbrev n_l_line_by : List Str := ["_law_cell", "_law_people_here", "_law_who", "_law_word"]
theorem sc_l_line_by : FnScope n_l_line_by ["_law_cell", "_law_people_here"] (defScope s_l_line_by) := ⟨rfl, rfl, rfl, by decide +kernel, rfl, by decide +kernel, by decide +kernel⟩
theorem ok_l_line_by {f : Addr} {fd : FuncData} (F : Fun K "_law_line_by" "_law_line_by" s_l_line_by f fd) (T : Txt K mg A) (h_l_wish_by : Has P w K mg base "_law_wish_by" ["_law_cell"] 1 m_l_wish_by) : FnD P w K mg base 2 f fd ["_law_cell", "_law_people_here"] m_l_line_by := by
  refine DL.okD (N := n_l_line_by) F sc_l_line_by len_l_line_by (by decide) (fun cdv Ar outer s H E hr => ?_) read_l_line_by
  have hu := hu_of hr
  have hw := hr.units
  have nd := sc_l_line_by.nd
  have tk : L2N.Takes (cxOf (L2N.CX P w) P w K mg base n_l_line_by "_law_line_by" (defScope s_l_line_by) f cdv Ar outer s H E) (WE0 E) := L2N.takes_of rfl rfl rfl rfl
  have hp : PassesOwn (model P w) (Ar.deeper (envOfC "_law_line_by" (defScope s_l_line_by) s.heap.objs.size f cdv)) (envOfC "_law_line_by" (defScope s_l_line_by) s.heap.objs.size f cdv) (cxOf (L2N.CX P w) P w K mg base n_l_line_by "_law_line_by" (defScope s_l_line_by) f cdv Ar outer s H E).xe := passes_of (X := cxOf (L2N.CX P w) P w K mg base n_l_line_by "_law_line_by" (defScope s_l_line_by) f cdv Ar outer s H E) rfl
  exact (pdss_cons (pds_set (i := 2) nd rfl (Or.inl rfl) (pd_ix hu (pd_v 1) (pd_mod (pd_div (pd_v 0) pd_int) pd_int)))
      (pdss_cons (pds_set (i := 3) nd rfl (Or.inl rfl) (pd_ix hu (pd_lst (pda_cons (pd_str (by decide +kernel)) (pda_cons (pd_str (by decide +kernel)) (pda_cons (pd_str (by decide +kernel)) (pda_cons (pd_str (by decide +kernel)) (pda_cons (pd_str (by decide +kernel)) pda_nil)))))) (pd_mod (pd_v 0) pd_int)))
      (pdss_cons (pds_if (pdt_lt (pd_mod (pd_v 0) pd_int) pd_int) (pdss_one (pds_ret (pd_add (pd_add (pd_add (pd_add (pd_v 3) (pd_str (by decide +kernel))) (pd_v 2)) (pd_str (by decide +kernel))) (pd_callH tk h_l_wish_by (hr.mono (by decide)) rfl (pda_cons (pd_div (pd_v 0) pd_int) pda_nil))))) pdss_nil)
      (pdss_one (pds_ret (pd_add (pd_add (pd_v 3) (pd_str (by decide +kernel))) (pd_v 2)))))))
abbrev s_l_odd_by : Stmt := topS 30
abbrev n_l_odd_by : List Str := ["_law_cell", "_law_more", "_law_right", "_law_some", "_law_place", "_law_signs", "_law_sign"]
theorem sc_l_odd_by : FnScope n_l_odd_by ["_law_cell", "_law_more", "_law_right"] (defScope s_l_odd_by) := ⟨rfl, rfl, rfl, by decide +kernel, rfl, by decide +kernel, by decide +kernel⟩
theorem ok_l_odd_by {f : Addr} {fd : FuncData} (F : Fun K "_law_odd_by" "_law_odd_by" s_l_odd_by f fd) (T : Txt K mg A)  : FnD P w K mg base 1 f fd ["_law_cell", "_law_more", "_law_right"] m_l_odd_by := by
  refine DL.okD (N := n_l_odd_by) F sc_l_odd_by len_l_odd_by (by decide) (fun cdv Ar outer s H E hr => ?_) read_l_odd_by
  have hu := hu_of hr
  have hw := hr.units
  have nd := sc_l_odd_by.nd
  have tk : L2N.Takes (cxOf (L2N.CX P w) P w K mg base n_l_odd_by "_law_odd_by" (defScope s_l_odd_by) f cdv Ar outer s H E) (WE0 E) := L2N.takes_of rfl rfl rfl rfl
  have hp : PassesOwn (model P w) (Ar.deeper (envOfC "_law_odd_by" (defScope s_l_odd_by) s.heap.objs.size f cdv)) (envOfC "_law_odd_by" (defScope s_l_odd_by) s.heap.objs.size f cdv) (cxOf (L2N.CX P w) P w K mg base n_l_odd_by "_law_odd_by" (defScope s_l_odd_by) f cdv Ar outer s H E).xe := passes_of (X := cxOf (L2N.CX P w) P w K mg base n_l_odd_by "_law_odd_by" (defScope s_l_odd_by) f cdv Ar outer s H E) rfl
  exact (pdss_cons (pds_set (i := 3) nd rfl (Or.inl rfl) (pd_lst (pda_cons (pd_str (by decide +kernel)) (pda_cons (pd_str (by decide +kernel)) (pda_cons (pd_str (by decide +kernel)) (pda_cons (pd_str (by decide +kernel)) (pda_cons (pd_str (by decide +kernel)) (pda_cons (pd_str (by decide +kernel)) (pda_cons (pd_str (by decide +kernel)) (pda_cons (pd_str (by decide +kernel)) (pda_cons (pd_str (by decide +kernel)) (pda_cons (pd_str (by decide +kernel)) pda_nil))))))))))))
      (pdss_cons (pds_set (i := 3) nd rfl (Or.inl rfl) (pd_add (pd_v 3) (pd_lst (pda_cons (pd_str (by decide +kernel)) (pda_cons (pd_str (by decide +kernel)) (pda_cons (pd_str (by decide +kernel)) (pda_cons (pd_str (by decide +kernel)) (pda_cons (pd_str (by decide +kernel)) pda_nil))))))))
      (pdss_cons (pds_set (i := 3) nd rfl (Or.inl rfl) (pd_add (pd_v 3) (pd_lst (pda_cons (pd_str (by decide +kernel)) (pda_cons (pd_str (by decide +kernel)) pda_nil)))))
      (pdss_cons (pds_set (i := 3) nd rfl (Or.inl rfl) (pd_add (pd_v 3) (pd_lst (pda_cons (pd_str (by decide +kernel)) (pda_cons (pd_str (by decide +kernel)) (pda_cons (pd_str (by decide +kernel)) (pda_cons (pd_str (by decide +kernel)) pda_nil)))))))
      (pdss_cons (pds_set (i := 3) nd rfl (Or.inl rfl) (pd_add (pd_v 3) (pd_lst (pda_cons (pd_str (by decide +kernel)) (pda_cons (pd_str (by decide +kernel)) (pda_cons (pd_str (by decide +kernel)) pda_nil))))))
      (pdss_cons (pds_set (i := 3) nd rfl (Or.inl rfl) (pd_add (pd_v 3) (pd_lst (pda_cons (pd_str (by decide +kernel)) (pda_cons (pd_str (by decide +kernel)) (pda_cons (pd_str (by decide +kernel)) pda_nil))))))
      (pdss_cons (pds_if (pdt_lt (pd_mod (pd_v 0) pd_int) pd_int) (pdss_one (pds_ret (pd_ix hu (pd_v 3) (pd_mod (pd_v 0) pd_int)))) pdss_nil)
      (pdss_cons (pds_set (i := 4) nd rfl (Or.inl rfl) (pd_mod (pd_v 1) (pd_add (pd_callB call_len l_len rfl T.b_len (by decide +kernel) (pda_cons (pd_v 2) pda_nil)) pd_int)))
      (pdss_cons (pds_set (i := 5) nd rfl (Or.inl rfl) (pd_str (by decide +kernel)))
      (pdss_cons (pds_set (i := 6) nd rfl (Or.inl rfl) (pd_ix hu (pd_v 5) (pd_mod (pd_div (pd_v 1) pd_int) (pd_callB call_len l_len rfl T.b_len (by decide +kernel) (pda_cons (pd_v 5) pda_nil)))))
      (pdss_cons (pds_if (pdt_eq hw (pd_mod (pd_v 0) pd_int) pd_int) (pdss_one (pds_ret (pd_add (pd_add (pd_slice (pd_v 2) pdo_none (pdo_some (pd_v 4))) (pd_v 6)) (pd_slice (pd_v 2) (pdo_some (pd_v 4)) pdo_none)))) pdss_nil)
      (pdss_cons (pds_if (pdt_eq hw (pd_mod (pd_v 0) pd_int) pd_int) (pdss_one (pds_ret (pd_add (pd_slice (pd_v 2) pdo_none (pdo_some (pd_v 4))) (pd_slice (pd_v 2) (pdo_some (pd_add (pd_v 4) pd_int)) pdo_none)))) pdss_nil)
      (pdss_one (pds_ret (pd_add (pd_add (pd_slice (pd_v 2) pdo_none (pdo_some (pd_v 4))) (pd_v 6)) (pd_slice (pd_v 2) (pdo_some (pd_add (pd_v 4) pd_int)) pdo_none))))))))))))))))
abbrev s_l_name : Stmt := topS 26
abbrev n_l_name : List Str := ["_law_thing", "_law_some", "_law_sign"]
theorem sc_l_name : FnScope n_l_name ["_law_thing"] (defScope s_l_name) := ⟨rfl, rfl, rfl, by decide +kernel, rfl, by decide +kernel, by decide +kernel⟩
theorem ok_l_name {f : Addr} {fd : FuncData} (F : Fun K "_law_name" "_law_name" s_l_name f fd) (T : Txt K mg A)  : FnD P w K mg base 1 f fd ["_law_thing"] m_l_name := by
  refine DL.okD (N := n_l_name) F sc_l_name len_l_name (by decide) (fun cdv Ar outer s H E hr => ?_) read_l_name
  have hu := hu_of hr
  have hw := hr.units
  have nd := sc_l_name.nd
  have tk : L2N.Takes (cxOf (L2N.CX P w) P w K mg base n_l_name "_law_name" (defScope s_l_name) f cdv Ar outer s H E) (WE0 E) := L2N.takes_of rfl rfl rfl rfl
  have hp : PassesOwn (model P w) (Ar.deeper (envOfC "_law_name" (defScope s_l_name) s.heap.objs.size f cdv)) (envOfC "_law_name" (defScope s_l_name) s.heap.objs.size f cdv) (cxOf (L2N.CX P w) P w K mg base n_l_name "_law_name" (defScope s_l_name) f cdv Ar outer s H E).xe := passes_of (X := cxOf (L2N.CX P w) P w K mg base n_l_name "_law_name" (defScope s_l_name) f cdv Ar outer s H E) rfl
  exact (pdss_cons (pds_if (pdt_w (pdw_or (pdt_not (pdt_val (pd_callB call_isi l_isi rfl T.b_isinstance (by decide +kernel) (pda_cons (pd_v 0) (pda_cons (pd_bltn rfl T.b_str (by decide +kernel)) pda_nil))))) (pdw_or (pdt_lt (pd_callB call_len l_len rfl T.b_len (by decide +kernel) (pda_cons (pd_v 0) pda_nil)) pd_int) (pdw_or1 (pdt_gt (pd_callB call_len l_len rfl T.b_len (by decide +kernel) (pda_cons (pd_v 0) pda_nil)) pd_int))))) (pdss_one (pds_ret pd_bl)) pdss_nil)
      (pdss_cons (pds_set (i := 1) nd rfl (Or.inr rfl) (pd_str (by decide +kernel)))
      (pdss_one (pds_ret (pd_eq hw (pd_lc rfl nd (pdi_any (pd_v 0)) (blkOk_by (own := [("_law_sign", 2)]) (N := n_l_name) (sc := defScope s_l_name) (by decide +kernel)) (fun _ _ _ _ _ => pg_name (i := 2) nd rfl (Or.inl rfl)) (fun _ _ _ _ _ => (pdts_one (pdt_notIn (pd_v 2) (pd_v 1)))) (fun _ _ _ _ _ => (pd_v 2))) (pd_lst pda_nil))))))
abbrev s_l_formed : Stmt := topS 27
abbrev n_l_formed : List Str := ["_law_row", "_law_word"]
theorem sc_l_formed : FnScope n_l_formed ["_law_row"] (defScope s_l_formed) := ⟨rfl, rfl, rfl, by decide +kernel, rfl, by decide +kernel, by decide +kernel⟩
theorem ok_l_formed {f : Addr} {fd : FuncData} (F : Fun K "_law_formed" "_law_formed" s_l_formed f fd) (T : Txt K mg A) (h_l_name : Has P w K mg base "_law_name" ["_law_thing"] 1 m_l_name) : FnD P w K mg base 2 f fd ["_law_row"] m_l_formed := by
  refine DL.okD (N := n_l_formed) F sc_l_formed len_l_formed (by decide) (fun cdv Ar outer s H E hr => ?_) read_l_formed
  have hu := hu_of hr
  have hw := hr.units
  have nd := sc_l_formed.nd
  have tk : L2N.Takes (cxOf (L2N.CX P w) P w K mg base n_l_formed "_law_formed" (defScope s_l_formed) f cdv Ar outer s H E) (WE0 E) := L2N.takes_of rfl rfl rfl rfl
  have hp : PassesOwn (model P w) (Ar.deeper (envOfC "_law_formed" (defScope s_l_formed) s.heap.objs.size f cdv)) (envOfC "_law_formed" (defScope s_l_formed) s.heap.objs.size f cdv) (cxOf (L2N.CX P w) P w K mg base n_l_formed "_law_formed" (defScope s_l_formed) f cdv Ar outer s H E).xe := passes_of (X := cxOf (L2N.CX P w) P w K mg base n_l_formed "_law_formed" (defScope s_l_formed) f cdv Ar outer s H E) rfl
  exact (pdss_cons (pds_if (pdt_w (pdw_or (pdt_not (pdt_val (pd_callB call_isi l_isi rfl T.b_isinstance (by decide +kernel) (pda_cons (pd_v 0) (pda_cons (pd_bltn rfl T.b_tuple (by decide +kernel)) pda_nil))))) (pdw_or (pdt_lt (pd_callB call_len l_len rfl T.b_len (by decide +kernel) (pda_cons (pd_v 0) pda_nil)) pd_int) (pdw_or1 (pdt_gt (pd_callB call_len l_len rfl T.b_len (by decide +kernel) (pda_cons (pd_v 0) pda_nil)) pd_int))))) (pdss_one (pds_ret pd_bl)) pdss_nil)
      (pdss_cons (pds_if (pdt_w (pdw_or (pdt_ne hw (pd_lc rfl nd (pdi_any (pd_v 0)) (blkOk_by (own := [("_law_word", 1)]) (N := n_l_formed) (sc := defScope s_l_formed) (by decide +kernel)) (fun _ _ _ _ _ => pg_name (i := 1) nd rfl (Or.inl rfl)) (fun _ _ _ _ _ => (pdts_one (pdt_not (pdt_val (pd_callB call_isi l_isi rfl T.b_isinstance (by decide +kernel) (pda_cons (pd_v 1) (pda_cons (pd_bltn rfl T.b_str (by decide +kernel)) pda_nil))))))) (fun _ _ _ _ _ => (pd_v 1))) (pd_lst pda_nil)) (pdw_or1 (pdt_not (pdt_val (pd_callH tk h_l_name (hr.mono (by decide)) rfl (pda_cons (pd_ix hu (pd_v 0) pd_int) pda_nil))))))) (pdss_one (pds_ret pd_bl)) pdss_nil)
      (pdss_cons (pds_if (pdt_eq hw (pd_callB call_len l_len rfl T.b_len (by decide +kernel) (pda_cons (pd_v 0) pda_nil)) pd_int) (pdss_one (pds_ret (pd_and (pd_in (pd_ix hu (pd_v 0) pd_int) (pd_lst (pda_cons (pd_str (by decide +kernel)) (pda_cons (pd_str (by decide +kernel)) pda_nil)))) (pd_one (pd_in (pd_ix hu (pd_v 0) pd_int) (pd_lst (pda_cons (pd_str (by decide +kernel)) (pda_cons (pd_str (by decide +kernel)) pda_nil)))))))) pdss_nil)
      (pdss_one (pds_ret (pd_in (pd_ix hu (pd_v 0) pd_int) (pd_lst (pda_cons (pd_str (by decide +kernel)) (pda_cons (pd_str (by decide +kernel)) (pda_cons (pd_str (by decide +kernel)) pda_nil))))))))))
abbrev s_l_rows_of : Stmt := topS 31
abbrev n_l_rows_of : List Str := ["_law_lines", "_law_rows", "_law_line", "_law_row", "_law_word"]
theorem sc_l_rows_of : FnScope n_l_rows_of ["_law_lines"] (defScope s_l_rows_of) := ⟨rfl, rfl, rfl, by decide +kernel, rfl, by decide +kernel, by decide +kernel⟩
theorem ok_l_rows_of {f : Addr} {fd : FuncData} (F : Fun K "_law_rows_of" "_law_rows_of" s_l_rows_of f fd) (T : Txt K mg A) (h_l_formed : Has P w K mg base "_law_formed" ["_law_row"] 2 m_l_formed) : FnD P w K mg base 3 f fd ["_law_lines"] m_l_rows_of := by
  refine DL.okD (N := n_l_rows_of) F sc_l_rows_of len_l_rows_of (by decide) (fun cdv Ar outer s H E hr => ?_) read_l_rows_of
  have hu := hu_of hr
  have hw := hr.units
  have nd := sc_l_rows_of.nd
  have tk : L2N.Takes (cxOf (L2N.CX P w) P w K mg base n_l_rows_of "_law_rows_of" (defScope s_l_rows_of) f cdv Ar outer s H E) (WE0 E) := L2N.takes_of rfl rfl rfl rfl
  have hp : PassesOwn (model P w) (Ar.deeper (envOfC "_law_rows_of" (defScope s_l_rows_of) s.heap.objs.size f cdv)) (envOfC "_law_rows_of" (defScope s_l_rows_of) s.heap.objs.size f cdv) (cxOf (L2N.CX P w) P w K mg base n_l_rows_of "_law_rows_of" (defScope s_l_rows_of) f cdv Ar outer s H E).xe := passes_of (X := cxOf (L2N.CX P w) P w K mg base n_l_rows_of "_law_rows_of" (defScope s_l_rows_of) f cdv Ar outer s H E) rfl
  exact (pdss_cons (pds_set (i := 1) nd rfl (Or.inl rfl) (pd_lstM pda_nil))
      (pdss_cons (pds_for hp rfl (pdi_any (pd_v 0)) (pdg_name (i := 2) nd rfl (Or.inl rfl)) (pdss_cons (pds_set (i := 3) nd rfl (Or.inl rfl) (pd_tup pda_nil))
      (pdss_cons (pds_for hp rfl (pdi_any (pd_m1 PySem.F.slot_str_split PySem.F.type_str_split mt_split l_split (pd_v 2) (pd_str (by decide +kernel)))) (pdg_name (i := 4) nd rfl (Or.inl rfl)) (pdss_one (pds_set (i := 3) nd rfl (Or.inl rfl) (pd_add (pd_v 3) (pd_tup (pda_cons (pd_v 4) pda_nil))))))
      (pdss_cons (pds_if (pdt_not (pdt_val (pd_callH tk h_l_formed (hr.mono (by decide)) rfl (pda_cons (pd_v 3) pda_nil)))) (pdss_one (pds_ret pd_non)) pdss_nil)
      (pdss_one (pds_expr (pd_bmL PySem.F.plainAttrs_list PySem.F.slot_list_append PySem.F.type_list_append mt_append l_append (pd_v 1) (pda_cons (pd_v 3) pda_nil))))))))
      (pdss_one (pds_ret (pd_frz (pd_v 1))))))
abbrev s_l_rows_alike : Stmt := topS 28
abbrev n_l_rows_alike : List Str := ["_law_found", "_law_due", "_law_k", "_law_word"]
theorem sc_l_rows_alike : FnScope n_l_rows_alike ["_law_found", "_law_due"] (defScope s_l_rows_alike) := ⟨rfl, rfl, rfl, by decide +kernel, rfl, by decide +kernel, by decide +kernel⟩
theorem ok_l_rows_alike {f : Addr} {fd : FuncData} (F : Fun K "_law_rows_alike" "_law_rows_alike" s_l_rows_alike f fd) (T : Txt K mg A)  : FnD P w K mg base 1 f fd ["_law_found", "_law_due"] m_l_rows_alike := by
  refine DL.okD (N := n_l_rows_alike) F sc_l_rows_alike len_l_rows_alike (by decide) (fun cdv Ar outer s H E hr => ?_) read_l_rows_alike
  have hu := hu_of hr
  have hw := hr.units
  have nd := sc_l_rows_alike.nd
  have tk : L2N.Takes (cxOf (L2N.CX P w) P w K mg base n_l_rows_alike "_law_rows_alike" (defScope s_l_rows_alike) f cdv Ar outer s H E) (WE0 E) := L2N.takes_of rfl rfl rfl rfl
  have hp : PassesOwn (model P w) (Ar.deeper (envOfC "_law_rows_alike" (defScope s_l_rows_alike) s.heap.objs.size f cdv)) (envOfC "_law_rows_alike" (defScope s_l_rows_alike) s.heap.objs.size f cdv) (cxOf (L2N.CX P w) P w K mg base n_l_rows_alike "_law_rows_alike" (defScope s_l_rows_alike) f cdv Ar outer s H E).xe := passes_of (X := cxOf (L2N.CX P w) P w K mg base n_l_rows_alike "_law_rows_alike" (defScope s_l_rows_alike) f cdv Ar outer s H E) rfl
  exact (pdss_cons (pds_if (pdt_w (pdw_or (pdt_not (pdt_val (pd_callB call_isi l_isi rfl T.b_isinstance (by decide +kernel) (pda_cons (pd_v 0) (pda_cons (pd_bltn rfl T.b_list (by decide +kernel)) pda_nil))))) (pdw_or1 (pdt_ne hw (pd_callB call_len l_len rfl T.b_len (by decide +kernel) (pda_cons (pd_v 0) pda_nil)) (pd_callB call_len l_len rfl T.b_len (by decide +kernel) (pda_cons (pd_v 1) pda_nil)))))) (pdss_one (pds_ret pd_bl)) pdss_nil)
      (pdss_cons (pds_for hp rfl (pdi_range1 rfl T.b_range (pda_cons (pd_callB call_len l_len rfl T.b_len (by decide +kernel) (pda_cons (pd_v 1) pda_nil)) pda_nil)) (pdg_name (i := 2) nd rfl (Or.inl rfl)) (pdss_cons (pds_if (pdt_w (pdw_or (pdt_not (pdt_val (pd_callB call_isi l_isi rfl T.b_isinstance (by decide +kernel) (pda_cons (pd_ix hu (pd_v 0) (pd_v 2)) (pda_cons (pd_bltn rfl T.b_tuple (by decide +kernel)) pda_nil))))) (pdw_or1 (pdt_ne hw (pd_callB call_len l_len rfl T.b_len (by decide +kernel) (pda_cons (pd_ix hu (pd_v 0) (pd_v 2)) pda_nil)) (pd_callB call_len l_len rfl T.b_len (by decide +kernel) (pda_cons (pd_ix hu (pd_v 1) (pd_v 2)) pda_nil)))))) (pdss_one (pds_ret pd_bl)) pdss_nil)
      (pdss_one (pds_if (pdt_ne hw (pd_lc rfl nd (pdi_any (pd_ix hu (pd_v 0) (pd_v 2))) (blkOk_by (own := [("_law_word", 3)]) (N := n_l_rows_alike) (sc := defScope s_l_rows_alike) (by decide +kernel)) (fun _ _ _ _ _ => pg_name (i := 3) nd rfl (Or.inl rfl)) (fun _ _ _ _ _ => (pdts_one (pdt_not (pdt_val (pd_callB call_isi l_isi rfl T.b_isinstance (by decide +kernel) (pda_cons (pd_v 3) (pda_cons (pd_bltn rfl T.b_str (by decide +kernel)) pda_nil))))))) (fun _ _ _ _ _ => (pd_v 3))) (pd_lst pda_nil)) (pdss_one (pds_ret pd_bl)) pdss_nil))))
      (pdss_one (pds_ret (pd_eq hw (pd_v 0) (pd_v 1))))))
abbrev s_law : Stmt := topS 34
abbrev n_law : List Str := ["_law_script", "_law_people_here", "_law_lines", "_law_k", "_law_place", "_law_right", "_law_odd", "_law_due", "_law_whole", "_law_line"]
theorem sc_law : FnScope n_law ["_law_script"] (defScope s_law) := ⟨rfl, rfl, rfl, by decide +kernel, rfl, by decide +kernel, by decide +kernel⟩
theorem ok_law {f : Addr} {fd : FuncData} (F : Fun K "law" "law" s_law f fd) (T : Txt K mg A) (h_l_cell_at : Has P w K mg base "_law_cell_at" ["_law_script", "_law_k"] 1 m_l_cell_at) (h_l_refused : Has P w K mg base "_law_refused" ["_law_thing"] 4 (m_l_refused A)) (h_l_people : Has P w K mg base "_law_people" ["_law_cell", "_law_many"] 1 m_l_people) (h_l_line_by : Has P w K mg base "_law_line_by" ["_law_cell", "_law_people_here"] 2 m_l_line_by) (h_l_odd_by : Has P w K mg base "_law_odd_by" ["_law_cell", "_law_more", "_law_right"] 1 m_l_odd_by) (h_l_rows_of : Has P w K mg base "_law_rows_of" ["_law_lines"] 3 m_l_rows_of) (h_l_rows_alike : Has P w K mg base "_law_rows_alike" ["_law_found", "_law_due"] 1 m_l_rows_alike) (h_read : Has P w K mg base "read" ["text"] 3 (m_read A)) : FnD P w K mg base 5 f fd ["_law_script"] m_law := by
  refine DL.okD (N := n_law) F sc_law len_law (by decide) (fun cdv Ar outer s H E hr => ?_) (read_law A)
  have hu := hu_of hr
  have hw := hr.units
  have nd := sc_law.nd
  have tk : L2N.Takes (cxOf (L2N.CX P w) P w K mg base n_law "law" (defScope s_law) f cdv Ar outer s H E) (WE0 E) := L2N.takes_of rfl rfl rfl rfl
  have hp : PassesOwn (model P w) (Ar.deeper (envOfC "law" (defScope s_law) s.heap.objs.size f cdv)) (envOfC "law" (defScope s_law) s.heap.objs.size f cdv) (cxOf (L2N.CX P w) P w K mg base n_law "law" (defScope s_law) f cdv Ar outer s H E).xe := passes_of (X := cxOf (L2N.CX P w) P w K mg base n_law "law" (defScope s_law) f cdv Ar outer s H E) rfl
  exact (pdss_cons (pds_if (pdt_eq hw (pd_mod (pd_div (pd_callH tk h_l_cell_at (hr.mono (by decide)) rfl (pda_cons (pd_v 0) (pda_cons pd_int pda_nil))) pd_int) pd_int) pd_int) (pdss_one (pds_ret (pd_callH tk h_l_refused (hr.mono (by decide)) rfl (pda_cons (pd_ix hu (pd_lst (pda_cons pd_non (pda_cons pd_int (pda_cons (pd_lst (pda_cons (pd_str (by decide +kernel)) pda_nil)) (pda_cons pd_bl (pda_cons (pd_tup (pda_cons (pd_str (by decide +kernel)) (pda_cons (pd_str (by decide +kernel)) pda_nil))) (pda_cons pd_dic0 pda_nil))))))) (pd_mod (pd_callH tk h_l_cell_at (hr.mono (by decide)) rfl (pda_cons (pd_v 0) (pda_cons pd_int pda_nil))) pd_int)) pda_nil)))) pdss_nil)
      (pdss_cons (pds_set (i := 1) nd rfl (Or.inr rfl) (pd_callH tk h_l_people (hr.mono (by decide)) rfl (pda_cons (pd_callH tk h_l_cell_at (hr.mono (by decide)) rfl (pda_cons (pd_v 0) (pda_cons pd_int pda_nil))) (pda_cons pd_int pda_nil))))
      (pdss_cons (pds_setLc (i := 2) rfl nd rfl rfl (sw_true rfl rfl rfl (by decide +kernel)) (pdi_range1 rfl T.b_range (pda_cons (pd_mod (pd_callH tk h_l_cell_at (hr.mono (by decide)) rfl (pda_cons (pd_v 0) (pda_cons pd_int pda_nil))) pd_int) pda_nil)) (blkOk_by (own := [("_law_k", 3)]) (N := n_law) (sc := defScope s_law) (by decide +kernel)) (fun _ _ _ _ _ => pg_name (i := 3) nd rfl (Or.inl rfl)) (fun _ _ _ _ _ => pdts_nil) (fun _ _ _ _ _ => (pd_callH takesN0 h_l_line_by (hr.mono (by decide)) rfl (pda_cons (pd_callH takesN0 h_l_cell_at (hr.mono (by decide)) rfl (pda_cons (pd_v 0) (pda_cons (pd_add pd_int (pd_v 3)) pda_nil))) (pda_cons (pd_v 1) pda_nil)))))
      (pdss_cons (pds_if (pdt_ne hw (pd_mod (pd_callH tk h_l_cell_at (hr.mono (by decide)) rfl (pda_cons (pd_v 0) (pda_cons pd_int pda_nil))) pd_int) pd_int) (pdss_cons (pds_set (i := 4) nd rfl (Or.inl rfl) (pd_mod (pd_callH tk h_l_cell_at (hr.mono (by decide)) rfl (pda_cons (pd_v 0) (pda_cons pd_int pda_nil))) (pd_add (pd_callB call_len l_len rfl T.b_len (by decide +kernel) (pda_cons (pd_v 2) pda_nil)) pd_int)))
      (pdss_cons (pds_set (i := 5) nd rfl (Or.inl rfl) (pd_callH tk h_l_line_by (hr.mono (by decide)) rfl (pda_cons (pd_callH tk h_l_cell_at (hr.mono (by decide)) rfl (pda_cons (pd_v 0) (pda_cons pd_int pda_nil))) (pda_cons (pd_v 1) pda_nil))))
      (pdss_cons (pds_set (i := 6) nd rfl (Or.inl rfl) (pd_callH tk h_l_odd_by (hr.mono (by decide)) rfl (pda_cons (pd_callH tk h_l_cell_at (hr.mono (by decide)) rfl (pda_cons (pd_v 0) (pda_cons pd_int pda_nil))) (pda_cons (pd_callH tk h_l_cell_at (hr.mono (by decide)) rfl (pda_cons (pd_v 0) (pda_cons pd_int pda_nil))) (pda_cons (pd_v 5) pda_nil)))))
      (pdss_one (pds_set (i := 2) nd rfl (Or.inl rfl) (pd_add (pd_add (pd_slice (pd_v 2) pdo_none (pdo_some (pd_v 4))) (pd_lst (pda_cons (pd_v 6) pda_nil))) (pd_slice (pd_v 2) (pdo_some (pd_v 4)) pdo_none))))))) pdss_nil)
      (pdss_cons (pds_set (i := 7) nd rfl (Or.inl rfl) (pd_callH tk h_l_rows_of (hr.mono (by decide)) rfl (pda_cons (pd_v 2) pda_nil)))
      (pdss_cons (pds_set (i := 8) nd rfl (Or.inl rfl) (pd_m1 PySem.F.slot_str_join PySem.F.type_str_join mt_join l_join (pd_str (by decide +kernel)) (pd_lc rfl nd (pdi_any (pd_v 2)) (blkOk_by (own := [("_law_line", 9)]) (N := n_law) (sc := defScope s_law) (by decide +kernel)) (fun _ _ _ _ _ => pg_name (i := 9) nd rfl (Or.inl rfl)) (fun _ _ _ _ _ => pdts_nil) (fun _ _ _ _ _ => (pd_add (pd_v 9) (pd_str (by decide +kernel)))))))
      (pdss_cons (pds_if (pdt_w (pdw_and (pdt_ne hw (pd_v 2) (pd_lst pda_nil)) (pdw_and1 (pdt_eq hw (pd_mod (pd_div (pd_callH tk h_l_cell_at (hr.mono (by decide)) rfl (pda_cons (pd_v 0) (pda_cons pd_int pda_nil))) pd_int) pd_int) pd_int)))) (pdss_cons (pds_set (i := 8) nd rfl (Or.inl rfl) (pd_slice (pd_v 8) pdo_none (pdo_some (pd_neg pd_int))))
      (pdss_cons (pds_set (i := 7) nd rfl (Or.inl rfl) pd_non)
      (pdss_one (pds_if (pdt_eq hw (pd_ix hu (pd_v 2) (pd_neg pd_int)) (pd_str (by decide +kernel))) (pdss_one (pds_set (i := 7) nd rfl (Or.inl rfl) (pd_callH tk h_l_rows_of (hr.mono (by decide)) rfl (pda_cons (pd_slice (pd_v 2) pdo_none (pdo_some (pd_neg pd_int))) pda_nil)))) pdss_nil)))) pdss_nil)
      (pdss_cons (pds_if (pdt_isN (pd_v 7)) (pdss_one (pds_ret (pd_callH tk h_l_refused (hr.mono (by decide)) rfl (pda_cons (pd_v 8) pda_nil)))) pdss_nil)
      (pdss_one (pds_ret (pd_callH tk h_l_rows_alike (hr.mono (by decide)) rfl (pda_cons (pd_callH tk h_read (hr.mono (by decide)) rfl (pda_cons (pd_v 8) pda_nil)) (pda_cons (pd_v 7) pda_nil)))))))))))))
end
theorem all_mk {P : Program} {w : World} {K : PySem.W.Frag} {h : Heap} {mg : Str → Option Value} {fa : Addr} {CRoomError : Addr} {CBadName : Addr} {CBadWish : Addr} {CBadNumber : Addr} {CKnown : Addr} {CStranger : Addr} {COutside : Addr} {CInside : Addr} {CReads : Addr} {CWrites : Addr} {CAsked : Addr} {CBadText : Addr} {CBadJournal : Addr} {tk_LONGEST : Tok} {tk_SIGNS : Tok} {f_l_cell_at : Addr} {oc_l_cell_at kV_l_cell_at dc_l_cell_at pm_l_cell_at cd_l_cell_at ct_l_cell_at : Value} {od_l_cell_at an_l_cell_at : Option Addr} {sl_l_cell_at : Array (Option Value)} {f_is_wish : Addr} {oc_is_wish kV_is_wish dc_is_wish pm_is_wish cd_is_wish ct_is_wish : Value} {od_is_wish an_is_wish : Option Addr} {sl_is_wish : Array (Option Value)} {f_is_name : Addr} {oc_is_name kV_is_name dc_is_name pm_is_name cd_is_name ct_is_name : Value} {od_is_name an_is_name : Option Addr} {sl_is_name : Array (Option Value)} {f_read_row : Addr} {oc_read_row kV_read_row dc_read_row pm_read_row cd_read_row ct_read_row : Value} {od_read_row an_read_row : Option Addr} {sl_read_row : Array (Option Value)} {f_read : Addr} {oc_read kV_read dc_read pm_read cd_read ct_read : Value} {od_read an_read : Option Addr} {sl_read : Array (Option Value)} {f_l_kinds : Addr} {oc_l_kinds kV_l_kinds dc_l_kinds pm_l_kinds cd_l_kinds ct_l_kinds : Value} {od_l_kinds an_l_kinds : Option Addr} {sl_l_kinds : Array (Option Value)} {f_l_refused : Addr} {oc_l_refused kV_l_refused dc_l_refused pm_l_refused cd_l_refused ct_l_refused : Value} {od_l_refused an_l_refused : Option Addr} {sl_l_refused : Array (Option Value)} {f_l_people : Addr} {oc_l_people kV_l_people dc_l_people pm_l_people cd_l_people ct_l_people : Value} {od_l_people an_l_people : Option Addr} {sl_l_people : Array (Option Value)} {f_l_wish_by : Addr} {oc_l_wish_by kV_l_wish_by dc_l_wish_by pm_l_wish_by cd_l_wish_by ct_l_wish_by : Value} {od_l_wish_by an_l_wish_by : Option Addr} {sl_l_wish_by : Array (Option Value)} {f_l_line_by : Addr} {oc_l_line_by kV_l_line_by dc_l_line_by pm_l_line_by cd_l_line_by ct_l_line_by : Value} {od_l_line_by an_l_line_by : Option Addr} {sl_l_line_by : Array (Option Value)} {f_l_odd_by : Addr} {oc_l_odd_by kV_l_odd_by dc_l_odd_by pm_l_odd_by cd_l_odd_by ct_l_odd_by : Value} {od_l_odd_by an_l_odd_by : Option Addr} {sl_l_odd_by : Array (Option Value)} {f_l_name : Addr} {oc_l_name kV_l_name dc_l_name pm_l_name cd_l_name ct_l_name : Value} {od_l_name an_l_name : Option Addr} {sl_l_name : Array (Option Value)} {f_l_formed : Addr} {oc_l_formed kV_l_formed dc_l_formed pm_l_formed cd_l_formed ct_l_formed : Value} {od_l_formed an_l_formed : Option Addr} {sl_l_formed : Array (Option Value)} {f_l_rows_of : Addr} {oc_l_rows_of kV_l_rows_of dc_l_rows_of pm_l_rows_of cd_l_rows_of ct_l_rows_of : Value} {od_l_rows_of an_l_rows_of : Option Addr} {sl_l_rows_of : Array (Option Value)} {f_l_rows_alike : Addr} {oc_l_rows_alike kV_l_rows_alike dc_l_rows_alike pm_l_rows_alike cd_l_rows_alike ct_l_rows_alike : Value} {od_l_rows_alike an_l_rows_alike : Option Addr} {sl_l_rows_alike : Array (Option Value)} {f_law : Addr} {oc_law kV_law dc_law pm_law cd_law ct_law : Value} {od_law an_law : Option Addr} {sl_law : Array (Option Value)} (X : K.In h) (G : h.Ns mainGlobals mg) (hfa : mg "law" = some (.ref fa))
    (aCRoomError : PySem.W.nsIn K mainGlobals "RoomError" = some (some (.ref CRoomError)))
    (aCBadName : PySem.W.nsIn K mainGlobals "BadName" = some (some (.ref CBadName)))
    (aCBadWish : PySem.W.nsIn K mainGlobals "BadWish" = some (some (.ref CBadWish)))
    (aCBadNumber : PySem.W.nsIn K mainGlobals "BadNumber" = some (some (.ref CBadNumber)))
    (aCKnown : PySem.W.nsIn K mainGlobals "Known" = some (some (.ref CKnown)))
    (aCStranger : PySem.W.nsIn K mainGlobals "Stranger" = some (some (.ref CStranger)))
    (aCOutside : PySem.W.nsIn K mainGlobals "Outside" = some (some (.ref COutside)))
    (aCInside : PySem.W.nsIn K mainGlobals "Inside" = some (some (.ref CInside)))
    (aCReads : PySem.W.nsIn K mainGlobals "Reads" = some (some (.ref CReads)))
    (aCWrites : PySem.W.nsIn K mainGlobals "Writes" = some (some (.ref CWrites)))
    (aCAsked : PySem.W.nsIn K mainGlobals "Asked" = some (some (.ref CAsked)))
    (aCBadText : PySem.W.nsIn K mainGlobals "BadText" = some (some (.ref CBadText)))
    (aCBadJournal : PySem.W.nsIn K mainGlobals "BadJournal" = some (some (.ref CBadJournal)))
    (x_BadText : PySem.W.excIn K CBadText [.type "ValueError", .type "Exception", .type "BaseException", .type "object"] "ValueError.__new__" = true)
    (k_BadText : PySem.W.keepIn K (.ref CBadText) = true)
    (s_BadText : PySem.W.subIn K (.ref CBadText) (.type "BaseException") = some true)
    (t_BadText : PySem.W.typeIn K (.ref CBadText) = some (.type "type"))
    (e_BadText_RoomError : PySem.W.exmOne K (.ref CBadText) (.ref CRoomError) = some true)
    (e_BadText_BadText : PySem.W.exmOne K (.ref CBadText) (.ref CBadText) = some true)
    (ecg_BadText : PySem.W.findIn K (.ref CBadText) "__getattribute__" = some (some (.builtin "BaseException.__getattribute__")))
    (eck_BadText : PySem.W.findIn K (.ref CBadText) "__getattr__" = some none)
    (ecs_BadText : PySem.W.subIn K (.ref CBadText) (.type "BaseException") = some true)
    (ecd_BadText : PySem.W.hasDictIn K CBadText = true)
    (eca_BadText : PySem.W.findIn K (.ref CBadText) "__class__" = some (some (.builtin "object.__class__")))
    (ecn_BadText : PySem.W.specialIn K (.builtin "object.__class__") "__get__" = some (some (.builtin "getset_descriptor.__get__")))
    (ect_BadText : PySem.W.takesIn K (.builtin "object.__class__") = some true)
    (ecm_BadText : PySem.W.mroIn K CBadText (.type "object") = some true)
    (i_BadText_BadName : PySem.W.kitOne K (.ref CBadText) (.ref CBadName) = some false)
    (i_BadText_BadWish : PySem.W.kitOne K (.ref CBadText) (.ref CBadWish) = some false)
    (i_BadText_BadNumber : PySem.W.kitOne K (.ref CBadText) (.ref CBadNumber) = some false)
    (i_BadText_Known : PySem.W.kitOne K (.ref CBadText) (.ref CKnown) = some false)
    (i_BadText_Stranger : PySem.W.kitOne K (.ref CBadText) (.ref CStranger) = some false)
    (i_BadText_Outside : PySem.W.kitOne K (.ref CBadText) (.ref COutside) = some false)
    (i_BadText_Inside : PySem.W.kitOne K (.ref CBadText) (.ref CInside) = some false)
    (i_BadText_Reads : PySem.W.kitOne K (.ref CBadText) (.ref CReads) = some false)
    (i_BadText_Writes : PySem.W.kitOne K (.ref CBadText) (.ref CWrites) = some false)
    (i_BadText_Asked : PySem.W.kitOne K (.ref CBadText) (.ref CAsked) = some false)
    (i_BadText_BadText : PySem.W.kitOne K (.ref CBadText) (.ref CBadText) = some true)
    (i_BadText_BadJournal : PySem.W.kitOne K (.ref CBadText) (.ref CBadJournal) = some false)
    (i_BadText_ValueError : PySem.W.kitOne K (.ref CBadText) (.type "ValueError") = some true)
    (z_ValueError : PySem.W.nsIn K mainGlobals "ValueError" = some none)
    (z_int : PySem.W.nsIn K mainGlobals "int" = some none)
    (z_isinstance : PySem.W.nsIn K mainGlobals "isinstance" = some none)
    (z_len : PySem.W.nsIn K mainGlobals "len" = some none)
    (z_list : PySem.W.nsIn K mainGlobals "list" = some none)
    (z_range : PySem.W.nsIn K mainGlobals "range" = some none)
    (z_str : PySem.W.nsIn K mainGlobals "str" = some none)
    (z_tuple : PySem.W.nsIn K mainGlobals "tuple" = some none)
    (v_LONGEST : PySem.W.nsIn K mainGlobals "LONGEST" = some (some (.int 12 tk_LONGEST)))
    (v_SIGNS : PySem.W.nsIn K mainGlobals "SIGNS" = some (some (.str "abcdefghijklmnopqrstuvwxyz0123456789" tk_SIGNS)))
    (a_l_cell_at : PySem.W.nsIn K mainGlobals "_law_cell_at" = some (some (.ref f_l_cell_at)))
    (l_l_cell_at : K.lookup f_l_cell_at = some ⟨oc_l_cell_at, od_l_cell_at, .func (PySem.W.fnOf "_law_cell_at" "_law_cell_at" (defArgs s_l_cell_at) (defBody s_l_cell_at) (defScope s_l_cell_at) .none kV_l_cell_at dc_l_cell_at pm_l_cell_at an_l_cell_at cd_l_cell_at ct_l_cell_at), sl_l_cell_at⟩)
    (c_l_cell_at : PySem.W.codeIn K cd_l_cell_at "_law_cell_at" = true)
    (kf_l_cell_at : PySem.W.keepIn K (.ref f_l_cell_at) = true)
    (a_is_wish : PySem.W.nsIn K mainGlobals "is_wish" = some (some (.ref f_is_wish)))
    (l_is_wish : K.lookup f_is_wish = some ⟨oc_is_wish, od_is_wish, .func (PySem.W.fnOf "is_wish" "is_wish" (defArgs s_is_wish) (defBody s_is_wish) (defScope s_is_wish) .none kV_is_wish dc_is_wish pm_is_wish an_is_wish cd_is_wish ct_is_wish), sl_is_wish⟩)
    (c_is_wish : PySem.W.codeIn K cd_is_wish "is_wish" = true)
    (kf_is_wish : PySem.W.keepIn K (.ref f_is_wish) = true)
    (a_is_name : PySem.W.nsIn K mainGlobals "is_name" = some (some (.ref f_is_name)))
    (l_is_name : K.lookup f_is_name = some ⟨oc_is_name, od_is_name, .func (PySem.W.fnOf "is_name" "is_name" (defArgs s_is_name) (defBody s_is_name) (defScope s_is_name) .none kV_is_name dc_is_name pm_is_name an_is_name cd_is_name ct_is_name), sl_is_name⟩)
    (c_is_name : PySem.W.codeIn K cd_is_name "is_name" = true)
    (kf_is_name : PySem.W.keepIn K (.ref f_is_name) = true)
    (a_read_row : PySem.W.nsIn K mainGlobals "read_row" = some (some (.ref f_read_row)))
    (l_read_row : K.lookup f_read_row = some ⟨oc_read_row, od_read_row, .func (PySem.W.fnOf "read_row" "read_row" (defArgs s_read_row) (defBody s_read_row) (defScope s_read_row) .none kV_read_row dc_read_row pm_read_row an_read_row cd_read_row ct_read_row), sl_read_row⟩)
    (c_read_row : PySem.W.codeIn K cd_read_row "read_row" = true)
    (kf_read_row : PySem.W.keepIn K (.ref f_read_row) = true)
    (a_read : PySem.W.nsIn K mainGlobals "read" = some (some (.ref f_read)))
    (l_read : K.lookup f_read = some ⟨oc_read, od_read, .func (PySem.W.fnOf "read" "read" (defArgs s_read) (defBody s_read) (defScope s_read) .none kV_read dc_read pm_read an_read cd_read ct_read), sl_read⟩)
    (c_read : PySem.W.codeIn K cd_read "read" = true)
    (kf_read : PySem.W.keepIn K (.ref f_read) = true)
    (a_l_kinds : PySem.W.nsIn K mainGlobals "_law_kinds" = some (some (.ref f_l_kinds)))
    (l_l_kinds : K.lookup f_l_kinds = some ⟨oc_l_kinds, od_l_kinds, .func (PySem.W.fnOf "_law_kinds" "_law_kinds" (defArgs s_l_kinds) (defBody s_l_kinds) (defScope s_l_kinds) .none kV_l_kinds dc_l_kinds pm_l_kinds an_l_kinds cd_l_kinds ct_l_kinds), sl_l_kinds⟩)
    (c_l_kinds : PySem.W.codeIn K cd_l_kinds "_law_kinds" = true)
    (kf_l_kinds : PySem.W.keepIn K (.ref f_l_kinds) = true)
    (a_l_refused : PySem.W.nsIn K mainGlobals "_law_refused" = some (some (.ref f_l_refused)))
    (l_l_refused : K.lookup f_l_refused = some ⟨oc_l_refused, od_l_refused, .func (PySem.W.fnOf "_law_refused" "_law_refused" (defArgs s_l_refused) (defBody s_l_refused) (defScope s_l_refused) .none kV_l_refused dc_l_refused pm_l_refused an_l_refused cd_l_refused ct_l_refused), sl_l_refused⟩)
    (c_l_refused : PySem.W.codeIn K cd_l_refused "_law_refused" = true)
    (kf_l_refused : PySem.W.keepIn K (.ref f_l_refused) = true)
    (a_l_people : PySem.W.nsIn K mainGlobals "_law_people" = some (some (.ref f_l_people)))
    (l_l_people : K.lookup f_l_people = some ⟨oc_l_people, od_l_people, .func (PySem.W.fnOf "_law_people" "_law_people" (defArgs s_l_people) (defBody s_l_people) (defScope s_l_people) .none kV_l_people dc_l_people pm_l_people an_l_people cd_l_people ct_l_people), sl_l_people⟩)
    (c_l_people : PySem.W.codeIn K cd_l_people "_law_people" = true)
    (kf_l_people : PySem.W.keepIn K (.ref f_l_people) = true)
    (a_l_wish_by : PySem.W.nsIn K mainGlobals "_law_wish_by" = some (some (.ref f_l_wish_by)))
    (l_l_wish_by : K.lookup f_l_wish_by = some ⟨oc_l_wish_by, od_l_wish_by, .func (PySem.W.fnOf "_law_wish_by" "_law_wish_by" (defArgs s_l_wish_by) (defBody s_l_wish_by) (defScope s_l_wish_by) .none kV_l_wish_by dc_l_wish_by pm_l_wish_by an_l_wish_by cd_l_wish_by ct_l_wish_by), sl_l_wish_by⟩)
    (c_l_wish_by : PySem.W.codeIn K cd_l_wish_by "_law_wish_by" = true)
    (kf_l_wish_by : PySem.W.keepIn K (.ref f_l_wish_by) = true)
    (a_l_line_by : PySem.W.nsIn K mainGlobals "_law_line_by" = some (some (.ref f_l_line_by)))
    (l_l_line_by : K.lookup f_l_line_by = some ⟨oc_l_line_by, od_l_line_by, .func (PySem.W.fnOf "_law_line_by" "_law_line_by" (defArgs s_l_line_by) (defBody s_l_line_by) (defScope s_l_line_by) .none kV_l_line_by dc_l_line_by pm_l_line_by an_l_line_by cd_l_line_by ct_l_line_by), sl_l_line_by⟩)
    (c_l_line_by : PySem.W.codeIn K cd_l_line_by "_law_line_by" = true)
    (kf_l_line_by : PySem.W.keepIn K (.ref f_l_line_by) = true)
    (a_l_odd_by : PySem.W.nsIn K mainGlobals "_law_odd_by" = some (some (.ref f_l_odd_by)))
    (l_l_odd_by : K.lookup f_l_odd_by = some ⟨oc_l_odd_by, od_l_odd_by, .func (PySem.W.fnOf "_law_odd_by" "_law_odd_by" (defArgs s_l_odd_by) (defBody s_l_odd_by) (defScope s_l_odd_by) .none kV_l_odd_by dc_l_odd_by pm_l_odd_by an_l_odd_by cd_l_odd_by ct_l_odd_by), sl_l_odd_by⟩)
    (c_l_odd_by : PySem.W.codeIn K cd_l_odd_by "_law_odd_by" = true)
    (kf_l_odd_by : PySem.W.keepIn K (.ref f_l_odd_by) = true)
    (a_l_name : PySem.W.nsIn K mainGlobals "_law_name" = some (some (.ref f_l_name)))
    (l_l_name : K.lookup f_l_name = some ⟨oc_l_name, od_l_name, .func (PySem.W.fnOf "_law_name" "_law_name" (defArgs s_l_name) (defBody s_l_name) (defScope s_l_name) .none kV_l_name dc_l_name pm_l_name an_l_name cd_l_name ct_l_name), sl_l_name⟩)
    (c_l_name : PySem.W.codeIn K cd_l_name "_law_name" = true)
    (kf_l_name : PySem.W.keepIn K (.ref f_l_name) = true)
    (a_l_formed : PySem.W.nsIn K mainGlobals "_law_formed" = some (some (.ref f_l_formed)))
    (l_l_formed : K.lookup f_l_formed = some ⟨oc_l_formed, od_l_formed, .func (PySem.W.fnOf "_law_formed" "_law_formed" (defArgs s_l_formed) (defBody s_l_formed) (defScope s_l_formed) .none kV_l_formed dc_l_formed pm_l_formed an_l_formed cd_l_formed ct_l_formed), sl_l_formed⟩)
    (c_l_formed : PySem.W.codeIn K cd_l_formed "_law_formed" = true)
    (kf_l_formed : PySem.W.keepIn K (.ref f_l_formed) = true)
    (a_l_rows_of : PySem.W.nsIn K mainGlobals "_law_rows_of" = some (some (.ref f_l_rows_of)))
    (l_l_rows_of : K.lookup f_l_rows_of = some ⟨oc_l_rows_of, od_l_rows_of, .func (PySem.W.fnOf "_law_rows_of" "_law_rows_of" (defArgs s_l_rows_of) (defBody s_l_rows_of) (defScope s_l_rows_of) .none kV_l_rows_of dc_l_rows_of pm_l_rows_of an_l_rows_of cd_l_rows_of ct_l_rows_of), sl_l_rows_of⟩)
    (c_l_rows_of : PySem.W.codeIn K cd_l_rows_of "_law_rows_of" = true)
    (kf_l_rows_of : PySem.W.keepIn K (.ref f_l_rows_of) = true)
    (a_l_rows_alike : PySem.W.nsIn K mainGlobals "_law_rows_alike" = some (some (.ref f_l_rows_alike)))
    (l_l_rows_alike : K.lookup f_l_rows_alike = some ⟨oc_l_rows_alike, od_l_rows_alike, .func (PySem.W.fnOf "_law_rows_alike" "_law_rows_alike" (defArgs s_l_rows_alike) (defBody s_l_rows_alike) (defScope s_l_rows_alike) .none kV_l_rows_alike dc_l_rows_alike pm_l_rows_alike an_l_rows_alike cd_l_rows_alike ct_l_rows_alike), sl_l_rows_alike⟩)
    (c_l_rows_alike : PySem.W.codeIn K cd_l_rows_alike "_law_rows_alike" = true)
    (kf_l_rows_alike : PySem.W.keepIn K (.ref f_l_rows_alike) = true)
    (a_law : PySem.W.nsIn K mainGlobals "law" = some (some (.ref f_law)))
    (l_law : K.lookup f_law = some ⟨oc_law, od_law, .func (PySem.W.fnOf "law" "law" (defArgs s_law) (defBody s_law) (defScope s_law) .none kV_law dc_law pm_law an_law cd_law ct_law), sl_law⟩)
    (c_law : PySem.W.codeIn K cd_law "law" = true)
    (kf_law : PySem.W.keepIn K (.ref f_law) = true) :
    ∃ fd : FuncData, (∀ (s : Shared) (v : Value), BindsTo s fd ⟨[v], []⟩ [("_law_script", v)]) ∧ ∀ base : Heap, K.In base → base.Ns mainGlobals mg → FnD P w K mg base 5 fa fd ["_law_script"] mLaw := by
  have e := hfa.symm.trans (PySem.W.mg_of X G a_law)
  cases e
  have T : Txt K mg ⟨0, CRoomError, CBadName, CBadWish, CBadNumber, CKnown, CStranger, COutside, CInside, CReads, CWrites, CAsked, CBadText, CBadJournal⟩ := ⟨trivial, PySem.W.mg_none_of X G z_ValueError, PySem.W.mg_none_of X G z_int, PySem.W.mg_none_of X G z_isinstance, PySem.W.mg_none_of X G z_len, PySem.W.mg_none_of X G z_list, PySem.W.mg_none_of X G z_range, PySem.W.mg_none_of X G z_str, PySem.W.mg_none_of X G z_tuple, ⟨_, PySem.W.mg_of X G v_LONGEST, ⟨_, rfl⟩⟩, ⟨_, PySem.W.mg_of X G v_SIGNS, ⟨_, rfl⟩⟩, PySem.W.mg_of X G aCRoomError, PySem.W.mg_of X G aCBadName, PySem.W.mg_of X G aCBadWish, PySem.W.mg_of X G aCBadNumber, PySem.W.mg_of X G aCKnown, PySem.W.mg_of X G aCStranger, PySem.W.mg_of X G aCOutside, PySem.W.mg_of X G aCInside, PySem.W.mg_of X G aCReads, PySem.W.mg_of X G aCWrites, PySem.W.mg_of X G aCAsked, PySem.W.mg_of X G aCBadText, PySem.W.mg_of X G aCBadJournal, x_BadText, k_BadText, s_BadText, t_BadText, e_BadText_RoomError, e_BadText_BadText, ⟨ecg_BadText, eck_BadText, ecs_BadText, ecd_BadText, eca_BadText, ecn_BadText, ect_BadText, ecm_BadText⟩, i_BadText_BadName, i_BadText_BadWish, i_BadText_BadNumber, i_BadText_Known, i_BadText_Stranger, i_BadText_Outside, i_BadText_Inside, i_BadText_Reads, i_BadText_Writes, i_BadText_Asked, i_BadText_BadText, i_BadText_BadJournal, i_BadText_ValueError⟩
  have F_l_cell_at := fun_mk (st := s_l_cell_at) l_l_cell_at c_l_cell_at kf_l_cell_at
  have b_l_cell_at := F_l_cell_at.binds (ps := ["_law_script", "_law_k"]) fun _ _ _ _ _ _ us hl => match us, hl with | [_, _], _ => rfl
  have F_is_wish := fun_mk (st := s_is_wish) l_is_wish c_is_wish kf_is_wish
  have b_is_wish := F_is_wish.binds (ps := ["thing"]) fun _ _ _ _ _ _ us hl => match us, hl with | [_], _ => rfl
  have F_is_name := fun_mk (st := s_is_name) l_is_name c_is_name kf_is_name
  have b_is_name := F_is_name.binds (ps := ["thing"]) fun _ _ _ _ _ _ us hl => match us, hl with | [_], _ => rfl
  have F_read_row := fun_mk (st := s_read_row) l_read_row c_read_row kf_read_row
  have b_read_row := F_read_row.binds (ps := ["line"]) fun _ _ _ _ _ _ us hl => match us, hl with | [_], _ => rfl
  have F_read := fun_mk (st := s_read) l_read c_read kf_read
  have b_read := F_read.binds (ps := ["text"]) fun _ _ _ _ _ _ us hl => match us, hl with | [_], _ => rfl
  have F_l_kinds := fun_mk (st := s_l_kinds) l_l_kinds c_l_kinds kf_l_kinds
  have b_l_kinds := F_l_kinds.binds (ps := ["_law_e"]) fun _ _ _ _ _ _ us hl => match us, hl with | [_], _ => rfl
  have F_l_refused := fun_mk (st := s_l_refused) l_l_refused c_l_refused kf_l_refused
  have b_l_refused := F_l_refused.binds (ps := ["_law_thing"]) fun _ _ _ _ _ _ us hl => match us, hl with | [_], _ => rfl
  have F_l_people := fun_mk (st := s_l_people) l_l_people c_l_people kf_l_people
  have b_l_people := F_l_people.binds (ps := ["_law_cell", "_law_many"]) fun _ _ _ _ _ _ us hl => match us, hl with | [_, _], _ => rfl
  have F_l_wish_by := fun_mk (st := s_l_wish_by) l_l_wish_by c_l_wish_by kf_l_wish_by
  have b_l_wish_by := F_l_wish_by.binds (ps := ["_law_cell"]) fun _ _ _ _ _ _ us hl => match us, hl with | [_], _ => rfl
  have F_l_line_by := fun_mk (st := s_l_line_by) l_l_line_by c_l_line_by kf_l_line_by
  have b_l_line_by := F_l_line_by.binds (ps := ["_law_cell", "_law_people_here"]) fun _ _ _ _ _ _ us hl => match us, hl with | [_, _], _ => rfl
  have F_l_odd_by := fun_mk (st := s_l_odd_by) l_l_odd_by c_l_odd_by kf_l_odd_by
  have b_l_odd_by := F_l_odd_by.binds (ps := ["_law_cell", "_law_more", "_law_right"]) fun _ _ _ _ _ _ us hl => match us, hl with | [_, _, _], _ => rfl
  have F_l_name := fun_mk (st := s_l_name) l_l_name c_l_name kf_l_name
  have b_l_name := F_l_name.binds (ps := ["_law_thing"]) fun _ _ _ _ _ _ us hl => match us, hl with | [_], _ => rfl
  have F_l_formed := fun_mk (st := s_l_formed) l_l_formed c_l_formed kf_l_formed
  have b_l_formed := F_l_formed.binds (ps := ["_law_row"]) fun _ _ _ _ _ _ us hl => match us, hl with | [_], _ => rfl
  have F_l_rows_of := fun_mk (st := s_l_rows_of) l_l_rows_of c_l_rows_of kf_l_rows_of
  have b_l_rows_of := F_l_rows_of.binds (ps := ["_law_lines"]) fun _ _ _ _ _ _ us hl => match us, hl with | [_], _ => rfl
  have F_l_rows_alike := fun_mk (st := s_l_rows_alike) l_l_rows_alike c_l_rows_alike kf_l_rows_alike
  have b_l_rows_alike := F_l_rows_alike.binds (ps := ["_law_found", "_law_due"]) fun _ _ _ _ _ _ us hl => match us, hl with | [_, _], _ => rfl
  have F_law := fun_mk (st := s_law) l_law c_law kf_law
  have b_law := F_law.binds (ps := ["_law_script"]) fun _ _ _ _ _ _ us hl => match us, hl with | [_], _ => rfl
  refine ⟨PySem.W.fnOf "law" "law" (defArgs s_law) (defBody s_law) (defScope s_law) .none kV_law dc_law pm_law an_law cd_law ct_law, fun s v => .of_eq rfl, fun base _ _ => ?_⟩
  have h_l_cell_at := (⟨_, _, PySem.W.mg_of X G a_l_cell_at, kf_l_cell_at, b_l_cell_at, ok_l_cell_at F_l_cell_at T⟩ : Has P w K mg base "_law_cell_at" ["_law_script", "_law_k"] 1 m_l_cell_at)
  have k_is_wish := (⟨_, _, PySem.W.mg_of X G a_is_wish, kf_is_wish, b_is_wish, okh_is_wish F_is_wish T⟩ : HasG P w K mg base (fun a => CXv P w (.ref a)) "is_wish" ["thing"] 1 (fun _ _ => m_is_wish))
  have h_is_wish := (⟨_, _, PySem.W.mg_of X G a_is_wish, kf_is_wish, b_is_wish, ok_is_wish F_is_wish T⟩ : Has P w K mg base "is_wish" ["thing"] 1 m_is_wish)
  have k_is_name := (⟨_, _, PySem.W.mg_of X G a_is_name, kf_is_name, b_is_name, okh_is_name F_is_name T⟩ : HasG P w K mg base (fun a => CXv P w (.ref a)) "is_name" ["thing"] 1 (fun _ _ => m_is_name))
  have h_is_name := (⟨_, _, PySem.W.mg_of X G a_is_name, kf_is_name, b_is_name, ok_is_name F_is_name T⟩ : Has P w K mg base "is_name" ["thing"] 1 m_is_name)
  have k_read_row := (⟨_, _, PySem.W.mg_of X G a_read_row, kf_read_row, b_read_row, okh_read_row F_read_row T k_is_wish k_is_name⟩ : HasG P w K mg base (fun a => CXv P w (.ref a)) "read_row" ["line"] 2 (fun _ _ => (m_read_row ⟨0, CRoomError, CBadName, CBadWish, CBadNumber, CKnown, CStranger, COutside, CInside, CReads, CWrites, CAsked, CBadText, CBadJournal⟩)))
  have h_read_row := (⟨_, _, PySem.W.mg_of X G a_read_row, kf_read_row, b_read_row, ok_read_row F_read_row T h_is_wish h_is_name⟩ : Has P w K mg base "read_row" ["line"] 2 (m_read_row ⟨0, CRoomError, CBadName, CBadWish, CBadNumber, CKnown, CStranger, COutside, CInside, CReads, CWrites, CAsked, CBadText, CBadJournal⟩))
  have k_read := (⟨_, _, PySem.W.mg_of X G a_read, kf_read, b_read, okh_read F_read T k_read_row⟩ : HasG P w K mg base (fun a => CXv P w (.ref a)) "read" ["text"] 3 (fun _ _ => (m_read ⟨0, CRoomError, CBadName, CBadWish, CBadNumber, CKnown, CStranger, COutside, CInside, CReads, CWrites, CAsked, CBadText, CBadJournal⟩)))
  have h_read := (⟨_, _, PySem.W.mg_of X G a_read, kf_read, b_read, ok_read F_read T h_read_row⟩ : Has P w K mg base "read" ["text"] 3 (m_read ⟨0, CRoomError, CBadName, CBadWish, CBadNumber, CKnown, CStranger, COutside, CInside, CReads, CWrites, CAsked, CBadText, CBadJournal⟩))
  have k_l_kinds := (⟨_, _, PySem.W.mg_of X G a_l_kinds, kf_l_kinds, b_l_kinds, okh_l_kinds F_l_kinds T⟩ : HasG P w K mg base (fun a => CXv P w (.ref a)) "_law_kinds" ["_law_e"] 1 (m_l_kinds K ⟨0, CRoomError, CBadName, CBadWish, CBadNumber, CKnown, CStranger, COutside, CInside, CReads, CWrites, CAsked, CBadText, CBadJournal⟩))
  have h_l_refused := (⟨_, _, PySem.W.mg_of X G a_l_refused, kf_l_refused, b_l_refused, ok_l_refused F_l_refused T h_read k_read k_l_kinds⟩ : Has P w K mg base "_law_refused" ["_law_thing"] 4 (m_l_refused ⟨0, CRoomError, CBadName, CBadWish, CBadNumber, CKnown, CStranger, COutside, CInside, CReads, CWrites, CAsked, CBadText, CBadJournal⟩))
  have h_l_people := (⟨_, _, PySem.W.mg_of X G a_l_people, kf_l_people, b_l_people, ok_l_people F_l_people T⟩ : Has P w K mg base "_law_people" ["_law_cell", "_law_many"] 1 m_l_people)
  have h_l_wish_by := (⟨_, _, PySem.W.mg_of X G a_l_wish_by, kf_l_wish_by, b_l_wish_by, ok_l_wish_by F_l_wish_by T⟩ : Has P w K mg base "_law_wish_by" ["_law_cell"] 1 m_l_wish_by)
  have h_l_line_by := (⟨_, _, PySem.W.mg_of X G a_l_line_by, kf_l_line_by, b_l_line_by, ok_l_line_by F_l_line_by T h_l_wish_by⟩ : Has P w K mg base "_law_line_by" ["_law_cell", "_law_people_here"] 2 m_l_line_by)
  have h_l_odd_by := (⟨_, _, PySem.W.mg_of X G a_l_odd_by, kf_l_odd_by, b_l_odd_by, ok_l_odd_by F_l_odd_by T⟩ : Has P w K mg base "_law_odd_by" ["_law_cell", "_law_more", "_law_right"] 1 m_l_odd_by)
  have h_l_name := (⟨_, _, PySem.W.mg_of X G a_l_name, kf_l_name, b_l_name, ok_l_name F_l_name T⟩ : Has P w K mg base "_law_name" ["_law_thing"] 1 m_l_name)
  have h_l_formed := (⟨_, _, PySem.W.mg_of X G a_l_formed, kf_l_formed, b_l_formed, ok_l_formed F_l_formed T h_l_name⟩ : Has P w K mg base "_law_formed" ["_law_row"] 2 m_l_formed)
  have h_l_rows_of := (⟨_, _, PySem.W.mg_of X G a_l_rows_of, kf_l_rows_of, b_l_rows_of, ok_l_rows_of F_l_rows_of T h_l_formed⟩ : Has P w K mg base "_law_rows_of" ["_law_lines"] 3 m_l_rows_of)
  have h_l_rows_alike := (⟨_, _, PySem.W.mg_of X G a_l_rows_alike, kf_l_rows_alike, b_l_rows_alike, ok_l_rows_alike F_l_rows_alike T⟩ : Has P w K mg base "_law_rows_alike" ["_law_found", "_law_due"] 1 m_l_rows_alike)
  exact ok_law F_law T h_l_cell_at h_l_refused h_l_people h_l_line_by h_l_odd_by h_l_rows_of h_l_rows_alike h_read
end My
open PySem PySem.W PyProof.Rows
set_option maxRecDepth 100000 in
set_option maxHeartbeats 0 in
theorem PySem.Challenge.cw_readwriteroom_k12_texts_refused_holds : PySem.Challenge.rw_readwriteroom_k12_texts_refused.Holds := by
  w_on; o_law; k_head; (case hw => w_witness2)
  k_fill
  refine DL.walkD (l := PySem.Challenge.rw_readwriteroom_k12_texts_refused) (k := 5) (x := "_law_script") rfl rfl ⟨rfl, by decide, by decide⟩ (fun w h Y => PySem.W.kIn_of Y) ?F
  case F =>
    intro w mg fa h KX G hmg
    refine' My.all_mk KX G hmg ?aCRoomError ?aCBadName ?aCBadWish ?aCBadNumber ?aCKnown ?aCStranger ?aCOutside ?aCInside ?aCReads ?aCWrites ?aCAsked ?aCBadText ?aCBadJournal ?x_BadText ?k_BadText ?s_BadText ?t_BadText ?e_BadText_RoomError ?e_BadText_BadText ?ecg_BadText ?eck_BadText ?ecs_BadText ?ecd_BadText ?eca_BadText ?ecn_BadText ?ect_BadText ?ecm_BadText ?i_BadText_BadName ?i_BadText_BadWish ?i_BadText_BadNumber ?i_BadText_Known ?i_BadText_Stranger ?i_BadText_Outside ?i_BadText_Inside ?i_BadText_Reads ?i_BadText_Writes ?i_BadText_Asked ?i_BadText_BadText ?i_BadText_BadJournal ?i_BadText_ValueError ?z_ValueError ?z_int ?z_isinstance ?z_len ?z_list ?z_range ?z_str ?z_tuple ?v_LONGEST ?v_SIGNS ?a_l_cell_at ?l_l_cell_at ?c_l_cell_at ?kf_l_cell_at ?a_is_wish ?l_is_wish ?c_is_wish ?kf_is_wish ?a_is_name ?l_is_name ?c_is_name ?kf_is_name ?a_read_row ?l_read_row ?c_read_row ?kf_read_row ?a_read ?l_read ?c_read ?kf_read ?a_l_kinds ?l_l_kinds ?c_l_kinds ?kf_l_kinds ?a_l_refused ?l_l_refused ?c_l_refused ?kf_l_refused ?a_l_people ?l_l_people ?c_l_people ?kf_l_people ?a_l_wish_by ?l_l_wish_by ?c_l_wish_by ?kf_l_wish_by ?a_l_line_by ?l_l_line_by ?c_l_line_by ?kf_l_line_by ?a_l_odd_by ?l_l_odd_by ?c_l_odd_by ?kf_l_odd_by ?a_l_name ?l_l_name ?c_l_name ?kf_l_name ?a_l_formed ?l_l_formed ?c_l_formed ?kf_l_formed ?a_l_rows_of ?l_l_rows_of ?c_l_rows_of ?kf_l_rows_of ?a_l_rows_alike ?l_l_rows_alike ?c_l_rows_alike ?kf_l_rows_alike ?a_law ?l_law ?c_law ?kf_law
    (case aCRoomError => first | k_is | k_exc | kts_exm | kit_is)
    (case aCBadName => first | k_is | k_exc | kts_exm | kit_is)
    (case aCBadWish => first | k_is | k_exc | kts_exm | kit_is)
    (case aCBadNumber => first | k_is | k_exc | kts_exm | kit_is)
    (case aCKnown => first | k_is | k_exc | kts_exm | kit_is)
    (case aCStranger => first | k_is | k_exc | kts_exm | kit_is)
    (case aCOutside => first | k_is | k_exc | kts_exm | kit_is)
    (case aCInside => first | k_is | k_exc | kts_exm | kit_is)
    (case aCReads => first | k_is | k_exc | kts_exm | kit_is)
    (case aCWrites => first | k_is | k_exc | kts_exm | kit_is)
    (case aCAsked => first | k_is | k_exc | kts_exm | kit_is)
    (case aCBadText => first | k_is | k_exc | kts_exm | kit_is)
    (case aCBadJournal => first | k_is | k_exc | kts_exm | kit_is)
    (case x_BadText => first | k_is | k_exc | kts_exm | kit_is)
    (case k_BadText => first | k_is | k_exc | kts_exm | kit_is)
    (case s_BadText => first | k_is | k_exc | kts_exm | kit_is)
    (case t_BadText => first | k_is | k_exc | kts_exm | kit_is)
    (case e_BadText_RoomError => first | k_is | k_exc | kts_exm | kit_is)
    (case e_BadText_BadText => first | k_is | k_exc | kts_exm | kit_is)
    (case ecg_BadText => first | k_is | k_exc | kts_exm | kit_is)
    (case eck_BadText => first | k_is | k_exc | kts_exm | kit_is)
    (case ecs_BadText => first | k_is | k_exc | kts_exm | kit_is)
    (case ecd_BadText => first | k_is | k_exc | kts_exm | kit_is)
    (case eca_BadText => first | k_is | k_exc | kts_exm | kit_is)
    (case ecn_BadText => first | k_is | k_exc | kts_exm | kit_is)
    (case ect_BadText => first | k_is | k_exc | kts_exm | kit_is)
    (case ecm_BadText => first | k_is | k_exc | kts_exm | kit_is)
    (case i_BadText_BadName => first | k_is | k_exc | kts_exm | kit_is)
    (case i_BadText_BadWish => first | k_is | k_exc | kts_exm | kit_is)
    (case i_BadText_BadNumber => first | k_is | k_exc | kts_exm | kit_is)
    (case i_BadText_Known => first | k_is | k_exc | kts_exm | kit_is)
    (case i_BadText_Stranger => first | k_is | k_exc | kts_exm | kit_is)
    (case i_BadText_Outside => first | k_is | k_exc | kts_exm | kit_is)
    (case i_BadText_Inside => first | k_is | k_exc | kts_exm | kit_is)
    (case i_BadText_Reads => first | k_is | k_exc | kts_exm | kit_is)
    (case i_BadText_Writes => first | k_is | k_exc | kts_exm | kit_is)
    (case i_BadText_Asked => first | k_is | k_exc | kts_exm | kit_is)
    (case i_BadText_BadText => first | k_is | k_exc | kts_exm | kit_is)
    (case i_BadText_BadJournal => first | k_is | k_exc | kts_exm | kit_is)
    (case i_BadText_ValueError => first | k_is | k_exc | kts_exm | kit_is)
    (case z_ValueError => first | k_is | k_exc | kts_exm | kit_is)
    (case z_int => first | k_is | k_exc | kts_exm | kit_is)
    (case z_isinstance => first | k_is | k_exc | kts_exm | kit_is)
    (case z_len => first | k_is | k_exc | kts_exm | kit_is)
    (case z_list => first | k_is | k_exc | kts_exm | kit_is)
    (case z_range => first | k_is | k_exc | kts_exm | kit_is)
    (case z_str => first | k_is | k_exc | kts_exm | kit_is)
    (case z_tuple => first | k_is | k_exc | kts_exm | kit_is)
    (case v_LONGEST => first | k_is | k_exc | kts_exm | kit_is)
    (case v_SIGNS => first | k_is | k_exc | kts_exm | kit_is)
    (case a_l_cell_at => first | k_is | k_exc | kts_exm | kit_is)
    (case l_l_cell_at => first | k_is | k_exc | kts_exm | kit_is)
    (case c_l_cell_at => first | k_is | k_exc | kts_exm | kit_is)
    (case kf_l_cell_at => first | k_is | k_exc | kts_exm | kit_is)
    (case a_is_wish => first | k_is | k_exc | kts_exm | kit_is)
    (case l_is_wish => first | k_is | k_exc | kts_exm | kit_is)
    (case c_is_wish => first | k_is | k_exc | kts_exm | kit_is)
    (case kf_is_wish => first | k_is | k_exc | kts_exm | kit_is)
    (case a_is_name => first | k_is | k_exc | kts_exm | kit_is)
    (case l_is_name => first | k_is | k_exc | kts_exm | kit_is)
    (case c_is_name => first | k_is | k_exc | kts_exm | kit_is)
    (case kf_is_name => first | k_is | k_exc | kts_exm | kit_is)
    (case a_read_row => first | k_is | k_exc | kts_exm | kit_is)
    (case l_read_row => first | k_is | k_exc | kts_exm | kit_is)
    (case c_read_row => first | k_is | k_exc | kts_exm | kit_is)
    (case kf_read_row => first | k_is | k_exc | kts_exm | kit_is)
    (case a_read => first | k_is | k_exc | kts_exm | kit_is)
    (case l_read => first | k_is | k_exc | kts_exm | kit_is)
    (case c_read => first | k_is | k_exc | kts_exm | kit_is)
    (case kf_read => first | k_is | k_exc | kts_exm | kit_is)
    (case a_l_kinds => first | k_is | k_exc | kts_exm | kit_is)
    (case l_l_kinds => first | k_is | k_exc | kts_exm | kit_is)
    (case c_l_kinds => first | k_is | k_exc | kts_exm | kit_is)
    (case kf_l_kinds => first | k_is | k_exc | kts_exm | kit_is)
    (case a_l_refused => first | k_is | k_exc | kts_exm | kit_is)
    (case l_l_refused => first | k_is | k_exc | kts_exm | kit_is)
    (case c_l_refused => first | k_is | k_exc | kts_exm | kit_is)
    (case kf_l_refused => first | k_is | k_exc | kts_exm | kit_is)
    (case a_l_people => first | k_is | k_exc | kts_exm | kit_is)
    (case l_l_people => first | k_is | k_exc | kts_exm | kit_is)
    (case c_l_people => first | k_is | k_exc | kts_exm | kit_is)
    (case kf_l_people => first | k_is | k_exc | kts_exm | kit_is)
    (case a_l_wish_by => first | k_is | k_exc | kts_exm | kit_is)
    (case l_l_wish_by => first | k_is | k_exc | kts_exm | kit_is)
    (case c_l_wish_by => first | k_is | k_exc | kts_exm | kit_is)
    (case kf_l_wish_by => first | k_is | k_exc | kts_exm | kit_is)
    (case a_l_line_by => first | k_is | k_exc | kts_exm | kit_is)
    (case l_l_line_by => first | k_is | k_exc | kts_exm | kit_is)
    (case c_l_line_by => first | k_is | k_exc | kts_exm | kit_is)
    (case kf_l_line_by => first | k_is | k_exc | kts_exm | kit_is)
    (case a_l_odd_by => first | k_is | k_exc | kts_exm | kit_is)
    (case l_l_odd_by => first | k_is | k_exc | kts_exm | kit_is)
    (case c_l_odd_by => first | k_is | k_exc | kts_exm | kit_is)
    (case kf_l_odd_by => first | k_is | k_exc | kts_exm | kit_is)
    (case a_l_name => first | k_is | k_exc | kts_exm | kit_is)
    (case l_l_name => first | k_is | k_exc | kts_exm | kit_is)
    (case c_l_name => first | k_is | k_exc | kts_exm | kit_is)
    (case kf_l_name => first | k_is | k_exc | kts_exm | kit_is)
    (case a_l_formed => first | k_is | k_exc | kts_exm | kit_is)
    (case l_l_formed => first | k_is | k_exc | kts_exm | kit_is)
    (case c_l_formed => first | k_is | k_exc | kts_exm | kit_is)
    (case kf_l_formed => first | k_is | k_exc | kts_exm | kit_is)
    (case a_l_rows_of => first | k_is | k_exc | kts_exm | kit_is)
    (case l_l_rows_of => first | k_is | k_exc | kts_exm | kit_is)
    (case c_l_rows_of => first | k_is | k_exc | kts_exm | kit_is)
    (case kf_l_rows_of => first | k_is | k_exc | kts_exm | kit_is)
    (case a_l_rows_alike => first | k_is | k_exc | kts_exm | kit_is)
    (case l_l_rows_alike => first | k_is | k_exc | kts_exm | kit_is)
    (case c_l_rows_alike => first | k_is | k_exc | kts_exm | kit_is)
    (case kf_l_rows_alike => first | k_is | k_exc | kts_exm | kit_is)
    (case a_law => first | k_is | k_exc | kts_exm | kit_is)
    (case l_law => first | k_is | k_exc | kts_exm | kit_is)
    (case c_law => first | k_is | k_exc | kts_exm | kit_is)
    (case kf_law => first | k_is | k_exc | kts_exm | kit_is)

