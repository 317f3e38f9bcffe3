import PyProof.Rows.All
import Wide.All
import OpenK.AllK
import Wide.FinOn
import HandS.ForMost
import HandS.Exc
import HandS.TryOnly
import HandS.TryMany
import HandS.ExcOwn
import HandS.WordsExc
import HandS.IsInst
import HandS.Flow
import HandS.TupAny
import HandS.More
import PyProof.Rows.SortShellAny
import PyProof.Rows.StrMeet
import HandS.ExcIs
import KE.RegKIsAll
import PyProof.EqKinds
import PyProof.NeKinds
import PyProof.P3Eq
import PyProof.FactsAll.dict_1
import PyProof.FactsAll.dict_2
import PyProof.FactsAll.subtypes_4
import PySem.Challenge.RW_readwriteroom_k13_whole_judged
set_option Elab.async false
set_option linter.all false
set_option maxRecDepth 100000
set_option maxHeartbeats 4000000
/-! The data layer: readings of a def over plain data, once for all defs -/
namespace DL
open PySem L2

/-! ### data -/
inductive D where
  | non | bl (b : Bool) | int (i : Int) | str (s : Str)
  | lst (xs : List D) | tup (xs : List D) | dic (kvs : List (Str × D)) | scr (ns : List Int) | obj (a : Addr) | ty (n : String)

/-- sound signs, a length that fits -/
def strOk (s : Str) : Bool := PyData.strOk s && decide (s.length ≤ 16777216)
theorem strOk_snd {s : Str} (h : strOk s = true) : PyData.strOk s = true := (Bool.and_eq_true_iff.mp h).1
theorem strOk_len {s : Str} (h : strOk s = true) : s.length ≤ sizeLine := by
  have := of_decide_eq_true (Bool.and_eq_true_iff.mp h).2
  rw [sizeLine_eq]; exact this
theorem strOk_mk {s : Str} (h : PyData.strOk s = true) (k : s.length ≤ sizeLine) : strOk s = true := by
  rw [sizeLine_eq] at k
  exact Bool.and_eq_true_iff.mpr ⟨h, decide_eq_true k⟩

mutual
inductive Rep (K : PySem.W.Frag) (G : Hp) : V → D → Prop
  | non : Rep K G .non .non
  | bl (b : Bool) : Rep K G (.bl b) (.bl b)
  | int (i : Int) : Rep K G (.int i) (.int i)
  | str (s : Str) : strOk s = true → Rep K G (.str s) (.str s)
  | lst {a : Addr} {vs : List V} {ds : List D} : G a = some (.lst vs) → RepL K G vs ds → ds.length ≤ sizeLine → Rep K G (.ref a) (.lst ds)
  | tup {a : Addr} {vs : List V} {ds : List D} : G a = some (.tup vs) → RepL K G vs ds → ds.length ≤ sizeLine → Rep K G (.ref a) (.tup ds)
  | dic {a : Addr} {kv : List (Key × V)} {ds : List (Str × D)} : G a = some (.dK kv) → kv.map (·.1) = ds.map (fun p => Sum.inr p.1) → RepL K G (kv.map (·.2)) (ds.map (·.2)) → Rep K G (.ref a) (.dic ds)
  | scr {a : Addr} {ns : List Int} : SqL K G a (ns.map V.int) → Rep K G (.ref a) (.scr ns)
  | obj (a : Addr) : Rep K G (.ref a) (.obj a)
  | ty (n : String) : Rep K G (.ty n) (.ty n)
inductive RepL (K : PySem.W.Frag) (G : Hp) : List V → List D → Prop
  | nil : RepL K G [] []
  | cons {v : V} {vs : List V} {d : D} {ds : List D} : Rep K G v d → RepL K G vs ds → RepL K G (v :: vs) (d :: ds)
end

section
variable {K : PySem.W.Frag} {G G' : Hp}
mutual
theorem Rep.mono (e : Same G G') : ∀ {v : V} {d : D}, Rep K G v d → Rep K G' v d
  | _, _, .non => .non
  | _, _, .bl b => .bl b
  | _, _, .int i => .int i
  | _, _, .str s h => .str s h
  | _, _, .lst h r z => .lst (e _ _ h) (RepL.mono e r) z
  | _, _, .tup h r z => .tup (e _ _ h) (RepL.mono e r) z
  | _, _, .dic h k r => .dic (e _ _ h) k (RepL.mono e r)
  | _, _, .scr h => .scr (e.seq h)
  | _, _, .obj a => .obj a
  | _, _, .ty n => .ty n
theorem RepL.mono (e : Same G G') : ∀ {vs : List V} {ds : List D}, RepL K G vs ds → RepL K G' vs ds
  | _, _, .nil => .nil
  | _, _, .cons h t => .cons (Rep.mono e h) (RepL.mono e t)
end
theorem RepL.len : ∀ {vs : List V} {ds : List D}, RepL K G vs ds → vs.length = ds.length
  | _, _, .nil => rfl
  | _, _, .cons _ t => by rw [List.length_cons, List.length_cons, t.len]
theorem RepL.get : ∀ {vs : List V} {ds : List D} {i : Nat} {v : V}, RepL K G vs ds → vs[i]? = some v → ∃ d, ds[i]? = some d ∧ Rep K G v d
  | _, _, _, _, .nil, e => by simp at e
  | _, _, 0, _, .cons r _, e => by simp at e; subst e; exact ⟨_, rfl, r⟩
  | _, _, i + 1, v, .cons _ t, e => by
    obtain ⟨u, h1, h2⟩ := RepL.get (i := i) (v := v) t (by simpa using e)
    exact ⟨u, by simpa using h1, h2⟩
theorem RepL.at : ∀ {vs : List V} {ds : List D} {i : Nat} {d : D}, RepL K G vs ds → ds[i]? = some d → ∃ v, vs[i]? = some v ∧ Rep K G v d
  | _, _, _, _, .nil, e => by simp at e
  | _, _, 0, _, .cons r _, e => by simp at e; subst e; exact ⟨_, rfl, r⟩
  | _, _, i + 1, d, .cons _ t, e => by
    obtain ⟨u, h1, h2⟩ := RepL.at (i := i) (d := d) t (by simpa using e)
    exact ⟨u, by simpa using h1, h2⟩
theorem RepL.append : ∀ {vs ws : List V} {ds es : List D}, RepL K G vs ds → RepL K G ws es → RepL K G (vs ++ ws) (ds ++ es)
  | _, _, _, _, .nil, s => s
  | _, _, _, _, .cons r t, s => .cons r (RepL.append t s)
theorem RepL.take : ∀ {vs : List V} {ds : List D} (n : Nat), RepL K G vs ds → RepL K G (vs.take n) (ds.take n)
  | _, _, 0, _ => .nil
  | _, _, _ + 1, .nil => .nil
  | _, _, n + 1, .cons r t => .cons r (RepL.take n t)
theorem RepL.drop : ∀ {vs : List V} {ds : List D} (n : Nat), RepL K G vs ds → RepL K G (vs.drop n) (ds.drop n)
  | _, _, 0, r => r
  | _, _, _ + 1, .nil => .nil
  | _, _, n + 1, .cons _ t => RepL.drop n t
theorem RepL.erase : ∀ {vs : List V} {ds : List D} (n : Nat), RepL K G vs ds → RepL K G (vs.eraseIdx n) (ds.eraseIdx n)
  | _, _, _, .nil => .nil
  | _, _, 0, .cons _ t => t
  | _, _, n + 1, .cons r t => .cons r (RepL.erase n t)
theorem RepL.one {v : V} {d : D} (h : Rep K G v d) : RepL K G [v] [d] := .cons h .nil
theorem RepL.ints : ∀ (ns : List Int), RepL K G (ns.map V.int) (ns.map D.int)
  | [] => .nil
  | i :: r => .cons (.int i) (RepL.ints r)
end

/-! ### what may change: by its address -/
inductive MO where
  | lst (ds : List D) | dic (kvs : List (Str × D)) | ins (C : Addr) (fs : List (Str × D))
abbrev Mem := Addr → Option MO
def Mem.set (M : Mem) (a : Addr) (o : MO) : Mem := fun b => if b = a then some o else M b
def Mem.del (M : Mem) (a : Addr) : Mem := fun b => if b = a then none else M b
theorem Mem.set_same {M : Mem} {a : Addr} {o : MO} : M.set a o a = some o := by unfold Mem.set; rw [if_pos rfl]
theorem Mem.set_ne {M : Mem} {a b : Addr} {o : MO} (h : b ≠ a) : M.set a o b = M b := by unfold Mem.set; rw [if_neg h]
theorem Mem.del_same {M : Mem} {a : Addr} : M.del a a = none := by unfold Mem.del; rw [if_pos rfl]
theorem Mem.del_ne {M : Mem} {a b : Addr} (h : b ≠ a) : M.del a b = M b := by unfold Mem.del; rw [if_neg h]
theorem Mem.set_set {M : Mem} {a : Addr} {o u : MO} : (M.set a o).set a u = M.set a u := by
  funext b; unfold Mem.set; split <;> rfl
theorem Mem.del_set {M : Mem} {a : Addr} {o : MO} (h : M a = none) : (M.set a o).del a = M := by
  funext b
  show (if b = a then none else if b = a then some o else M b) = M b
  by_cases e : b = a
  · rw [if_pos e, e, h]
  · rw [if_neg e, if_neg e]
theorem Mem.set_eq {M : Mem} {a : Addr} {o : MO} (h : M a = some o) : M.set a o = M := by
  funext b
  show (if b = a then some o else M b) = M b
  by_cases e : b = a
  · rw [if_pos e, e, h]
  · rw [if_neg e]
theorem Mem.set_comm {M : Mem} {a b : Addr} {o u : MO} (h : a ≠ b) : (M.set a o).set b u = (M.set b u).set a o := by
  funext c
  show (if c = b then some u else if c = a then some o else M c) = (if c = a then some o else if c = b then some u else M c)
  by_cases e : c = b
  · subst e; rw [if_pos rfl, if_neg (Ne.symm h), if_pos rfl]
  · rw [if_neg e]
    by_cases e2 : c = a
    · rw [if_pos e2, if_pos e2]
    · rw [if_neg e2, if_neg e2, if_neg e]
def Mem.Sub (M N : Mem) : Prop := ∀ a o, M a = some o → N a = some o
theorem Mem.Sub.refl (M : Mem) : M.Sub M := fun _ _ h => h
theorem Mem.Sub.trans {M N P : Mem} (h : M.Sub N) (k : N.Sub P) : M.Sub P := fun a o e => k a o (h a o e)
theorem Mem.sub_set {M : Mem} {a : Addr} {o : MO} (h : M a = none) : M.Sub (M.set a o) := fun b u e => by
  rw [Mem.set_ne (fun z => by rw [z, h] at e; cases e)]; exact e
theorem Mem.sub_del {M : Mem} {a : Addr} : (M.del a).Sub M := fun b u e => by
  by_cases h : b = a
  · rw [h, Mem.del_same] at e; cases e
  · rw [Mem.del_ne h] at e; exact e

def MOk (K : PySem.W.Frag) (H G : Hp) (a : Addr) : MO → Prop
  | .lst ds => ∃ vs, H a = some (.lst vs) ∧ RepL K G vs ds ∧ ds.length ≤ sizeLine
  | .dic kvs => ∃ kv, H a = some (.dK kv) ∧ kv.map (·.1) = kvs.map (fun p => (Sum.inr p.1 : Key)) ∧ RepL K G (kv.map (·.2)) (kvs.map (·.2))
  | .ins C fs => ∃ dx fv, H a = some (.ins C dx fv) ∧ fv.map (·.1) = fs.map (·.1) ∧ RepL K G (fv.map (·.2)) (fs.map (·.2))
structure Ok (K : PySem.W.Frag) (H G : Hp) (M : Mem) : Prop where
  sub : Same G H
  mem : ∀ a o, M a = some o → G a = none ∧ MOk K H G a o
section
variable {K : PySem.W.Frag} {H H' G G' : Hp} {M M' : Mem} {a p : Addr} {o : HO} {m : MO}
theorem MOk.there (h : MOk K H G a m) : ∃ u, H a = some u := by
  cases m with
  | lst ds => obtain ⟨vs, e, _⟩ := h; exact ⟨_, e⟩
  | dic kvs => obtain ⟨vs, e, _⟩ := h; exact ⟨_, e⟩
  | ins C fs => obtain ⟨dx, fv, e, _⟩ := h; exact ⟨_, e⟩
theorem MOk.mono (h : MOk K H G a m) (e : H a = H' a) (g : Same G G') : MOk K H' G' a m := by
  cases m with
  | lst ds => obtain ⟨vs, h1, h2, z⟩ := h; exact ⟨vs, e ▸ h1, h2.mono g, z⟩
  | dic kvs => obtain ⟨vs, h1, k, h2⟩ := h; exact ⟨vs, e ▸ h1, k, h2.mono g⟩
  | ins C fs => obtain ⟨dx, fv, h1, k, h2⟩ := h; exact ⟨dx, fv, e ▸ h1, k, h2.mono g⟩
theorem Ok.ne (ok : Ok K H G M) (h : H p = none) (e : M a = some m) : a ≠ p := fun z => by
  obtain ⟨u, q⟩ := (ok.mem a m e).2.there
  rw [z, h] at q; cases q
theorem Ok.gnone (ok : Ok K H G M) (h : H p = none) : G p = none := ok.sub.free h
theorem Ok.mnone (ok : Ok K H G M) (h : H p = none) : M p = none := by
  cases e : M p with
  | none => rfl
  | some m => exact absurd rfl (ok.ne h e)
theorem Ok.weak (ok : Ok K H G M) (s : M'.Sub M) : Ok K H G M' := ⟨ok.sub, fun a o e => ok.mem a o (s a o e)⟩
theorem same_upd (h : G p = none) : Same G (upd G p o) := fun b u e => by rw [upd_ne (ne_of_none e h)]; exact e
/-- a new object that never changes -/
theorem Ok.frozen (ok : Ok K H G M) (h : H p = none) : Ok K (upd H p o) (upd G p o) M := by
  refine ⟨fun b u e => ?_, fun b u e => ?_⟩
  · by_cases hb : b = p
    · subst hb; rw [upd_same] at e ⊢; exact e
    · rw [upd_ne hb] at e ⊢; exact ok.sub b u e
  · have hb := ok.ne h e
    obtain ⟨h1, h2⟩ := ok.mem b u e
    exact ⟨by rw [upd_ne hb]; exact h1, h2.mono (by rw [upd_ne hb]) (same_upd (ok.gnone h))⟩
/-- a new object that nobody looks at -/
theorem Ok.extra (ok : Ok K H G M) (h : H p = none) : Ok K (upd H p o) G M := by
  refine ⟨fun b u e => ?_, fun b u e => ?_⟩
  · rw [upd_ne (ne_of_none (ok.sub b u e) h)]; exact ok.sub b u e
  · have hb := ok.ne h e
    obtain ⟨h1, h2⟩ := ok.mem b u e
    exact ⟨h1, h2.mono (by rw [upd_ne hb]) (Same.refl _)⟩
/-- an object written or laid that may change -/
theorem Ok.write (ok : Ok K H G M) (h : G a = none) (q : MOk K (upd H a o) G a m) : Ok K (upd H a o) G (M.set a m) := by
  refine ⟨fun b u e => ?_, fun b u e => ?_⟩
  · rw [upd_ne (ne_of_none e h)]; exact ok.sub b u e
  · by_cases hb : b = a
    · subst hb; rw [Mem.set_same] at e; cases e; exact ⟨h, q⟩
    · rw [Mem.set_ne hb] at e
      obtain ⟨h1, h2⟩ := ok.mem b u e
      exact ⟨h1, h2.mono (by rw [upd_ne hb]) (Same.refl _)⟩
/-- what may change no longer does -/
theorem Ok.freeze (ok : Ok K H G M) (e : M a = some m) (hH : H a = some o) : Ok K H (upd G a o) (M.del a) := by
  refine ⟨fun b u q => ?_, fun b u q => ?_⟩
  · by_cases hb : b = a
    · subst hb; rw [upd_same] at q; cases q; exact hH
    · rw [upd_ne hb] at q; exact ok.sub b u q
  · by_cases hb : b = a
    · rw [hb, Mem.del_same] at q; cases q
    · rw [Mem.del_ne hb] at q
      obtain ⟨h1, h2⟩ := ok.mem b u q
      exact ⟨by rw [upd_ne hb]; exact h1, h2.mono rfl (same_upd (ok.mem a m e).1)⟩
end

/-! ### readings over data -/
abbrev DS := List (Option D)
abbrev QD := D → Mem → Prop
abbrev XD := Addr → DS → Mem → Prop
abbrev DE := DS → Mem → QD → XD → Prop
abbrev DT := DS → Mem → (Bool → Mem → Prop) → XD → Prop
abbrev DA := DS → Mem → (List D → Mem → Prop) → XD → Prop
abbrev DO := DS → Mem → (Option Int → Mem → Prop) → XD → Prop
structure DEnds where
  nx : DS → Mem → Prop
  rt : QD
  bk : DS → Mem → Prop := fun _ _ => False
  ct : DS → Mem → Prop := fun _ _ => False
  xc : XD := fun _ _ _ => False
abbrev DSt := DEnds → DS → Mem → Prop

inductive SlotR (K : PySem.W.Frag) (G : Hp) : Option V → Option D → Prop
  | no {x : Option V} : SlotR K G x none
  | yes {v : V} {d : D} : Rep K G v d → SlotR K G (some v) (some d)
abbrev Slots (K : PySem.W.Frag) (G : Hp) : L2.St → DS → Prop := Paired (SlotR K G)
section
variable {K : PySem.W.Frag} {G G' : Hp}
theorem SlotR.mono (e : Same G G') {x : Option V} {y : Option D} (h : SlotR K G x y) : SlotR K G' x y := by
  cases h with
  | no => exact .no
  | yes r => exact .yes (r.mono e)
theorem Slots.mono (e : Same G G') {σ : L2.St} {δ : DS} (h : Slots K G σ δ) : Slots K G' σ δ := Paired.mapP h fun _ _ r => r.mono e
theorem Slots.set {x : Option V} {y : Option D} (r : SlotR K G x y) : ∀ {σ : L2.St} {δ : DS} (i : Nat), Slots K G σ δ → Slots K G (σ.set i x) (δ.set i y)
  | _, _, _, .nil => .nil
  | _, _, 0, .cons _ t => .cons r t
  | _, _, i + 1, .cons q t => .cons q (Slots.set r i t)
def slot : DS → Nat → Option D
  | [], _ => none
  | x :: _, 0 => x
  | _ :: r, n + 1 => slot r n
theorem Slots.get {d : D} : ∀ {σ : L2.St} {δ : DS} {i : Nat}, Slots K G σ δ → slot δ i = some d → ∃ v, σ[i]? = some (some v) ∧ Rep K G v d
  | _, _, _, .nil, e => by cases e
  | _, _, 0, .cons (a := x) (b := y) r t, e => by
    have e' : y = some d := e
    subst e'
    cases r with
    | yes r => exact ⟨_, rfl, r⟩
  | _, _, i + 1, .cons _ t, e => by
    obtain ⟨v, h1, h2⟩ := Slots.get (i := i) t e
    exact ⟨v, by simpa using h1, h2⟩
def dwipe (δ : DS) : List Nat → DS
  | [] => δ
  | v :: vs => (dwipe δ vs).set v none
theorem Slots.wipe {σ : L2.St} {δ : DS} (h : Slots K G σ δ) : ∀ vs : List Nat, Slots K G (wipe σ vs) (dwipe δ vs)
  | [] => h
  | v :: vs => Slots.set .no v (Slots.wipe h vs)
end

def WOk (K : PySem.W.Frag) (W : WX) (G : Hp) (X : XD) : Prop := ∀ cls δ M σ H G', X cls δ M → Ok K H G' M → Same G G' → Slots K G' σ δ → W (.ref cls) none σ H
theorem WOk.mono {K : PySem.W.Frag} {W : WX} {G G1 : Hp} {X : XD} (h : WOk K W G X) (e : Same G G1) : WOk K W G1 X := fun cls δ M σ H G' x ok s sl => h cls δ M σ H G' x ok (e.trans s) sl
theorem WOk.bot {K : PySem.W.Frag} {W : WX} {G : Hp} : WOk K W G (fun _ _ _ => False) := fun _ _ _ _ _ _ z => z.elim
abbrev W0 : WX := fun _ _ _ _ => False
def up (K : PySem.W.Frag) (W : WX) (t : DE) : TE := fun σ H Q => ∃ (G : Hp) (M : Mem) (δ : DS) (Q' : QD) (X' : XD), Ok K H G M ∧ Slots K G σ δ ∧ t δ M Q' X' ∧
  (∀ d M' v H' G', Q' d M' → Ok K H' G' M' → Same G G' → Rep K G' v d → Q v H') ∧ WOk K W G X'
def upT (K : PySem.W.Frag) (W : WX) (t : DT) : TT := fun σ H Q => ∃ (G : Hp) (M : Mem) (δ : DS) (Q' : Bool → Mem → Prop) (X' : XD), Ok K H G M ∧ Slots K G σ δ ∧ t δ M Q' X' ∧
  (∀ d M' H' G', Q' d M' → Ok K H' G' M' → Same G G' → Q d H') ∧ WOk K W G X'
def upA (K : PySem.W.Frag) (W : WX) (t : DA) : TA := fun σ H Q => ∃ (G : Hp) (M : Mem) (δ : DS) (Q' : List D → Mem → Prop) (X' : XD), Ok K H G M ∧ Slots K G σ δ ∧ t δ M Q' X' ∧
  (∀ ds M' vs H' G', Q' ds M' → Ok K H' G' M' → Same G G' → RepL K G' vs ds → Q vs H') ∧ WOk K W G X'
def upO (K : PySem.W.Frag) (W : WX) (t : DO) : TO := fun σ H Q => ∃ (G : Hp) (M : Mem) (δ : DS) (Q' : Option Int → Mem → Prop) (X' : XD), Ok K H G M ∧ Slots K G σ δ ∧ t δ M Q' X' ∧
  (∀ d M' H' G', Q' d M' → Ok K H' G' M' → Same G G' → Q d H') ∧ WOk K W G X'
/-- what a statement is to reach, over data, gives what it is to reach -/
structure EOk (K : PySem.W.Frag) (W : WX) (G : Hp) (E : DEnds) (D' : Ends) : Prop where
  nx : ∀ δ M σ H G', E.nx δ M → Ok K H G' M → Same G G' → Slots K G' σ δ → D'.nx σ H
  rt : ∀ d M v H G', E.rt d M → Ok K H G' M → Same G G' → Rep K G' v d → D'.rt v H
  bk : ∀ δ M σ H G', E.bk δ M → Ok K H G' M → Same G G' → Slots K G' σ δ → D'.bk σ H
  ct : ∀ δ M σ H G', E.ct δ M → Ok K H G' M → Same G G' → Slots K G' σ δ → D'.ct σ H
  xc : WOk K W G E.xc
def upS (K : PySem.W.Frag) (W : WX) (t : DSt) : TS := fun D' σ H => ∃ (G : Hp) (M : Mem) (δ : DS) (E : DEnds), Ok K H G M ∧ Slots K G σ δ ∧ t E δ M ∧ EOk K W G E D'

abbrev PD (X : Cx) (W : WX) (e : Expr) (t : DE) : Prop := PE X e (up X.K W t)
abbrev PDT (X : Cx) (W : WX) (e : Expr) (t : DT) : Prop := PT X e (upT X.K W t)
abbrev PDW (X : Cx) (W : WX) (e : Expr) (t : DT) : Prop := PW X e (upT X.K W t)
abbrev PDA (X : Cx) (W : WX) (es : List Expr) (t : DA) : Prop := PA X es (upA X.K W t)
abbrev PDO (X : Cx) (W : WX) (e : Option Expr) (t : DO) : Prop := PO X e (upO X.K W t)
abbrev PDS (X : Cx) (W : WX) (s : Stmt) (t : DSt) : Prop := PS X s (upS X.K W t)
abbrev PDSs (X : Cx) (W : WX) (s : List Stmt) (t : DSt) : Prop := PSs X s (upS X.K W t)

section
variable {X : Cx}
theorem PEw {e : Expr} {t t' : TE} (h : PE X e t) (w : ∀ σ H Q, t' σ H Q → t σ H Q) : PE X e t' := ⟨fun pins s σ H Q I q => h.run pins s σ H Q I (w σ H Q q)⟩
theorem PTw {e : Expr} {t t' : TT} (h : PT X e t) (w : ∀ σ H Q, t' σ H Q → t σ H Q) : PT X e t' := ⟨fun pins s σ H Q I q => h.run pins s σ H Q I (w σ H Q q)⟩
theorem PWw {e : Expr} {t t' : TT} (h : PW X e t) (w : ∀ σ H Q, t' σ H Q → t σ H Q) : PW X e t' := ⟨fun wh pins s σ H Q I q => h.run wh pins s σ H Q I (w σ H Q q)⟩
theorem PAw {e : List Expr} {t t' : TA} (h : PA X e t) (w : ∀ σ H Q, t' σ H Q → t σ H Q) : PA X e t' := ⟨fun pos pins s σ H Q I q => h.run pos pins s σ H Q I (w σ H Q q)⟩
theorem PSw {e : Stmt} {t t' : TS} (h : PS X e t) (w : ∀ D σ H, t' D σ H → t D σ H) : PS X e t' := ⟨fun pins s σ H D I q => h.run pins s σ H D I (w D σ H q)⟩
theorem PSsw {e : List Stmt} {t t' : TS} (h : PSs X e t) (w : ∀ D σ H, t' D σ H → t D σ H) : PSs X e t' := ⟨fun pins s σ H D I q => h.run pins s σ H D I (w D σ H q)⟩
theorem PE.or {e : Expr} {t u : TE} (h : PE X e t) (k : PE X e u) : PE X e (fun σ H Q => t σ H Q ∨ u σ H Q) :=
  ⟨fun pins s σ H Q I q => q.elim (fun z => h.run pins s σ H Q I z) (fun z => k.run pins s σ H Q I z)⟩
theorem OpR.or {f : Value → Value → Sem Value} {r r' : R2} (h : OpR X f r) (h' : OpR X f r') : OpR X f (fun x y H Q => r x y H Q ∨ r' x y H Q) :=
  fun pins s σ H x y v u Q I rx ry q => q.elim (fun z => h pins s σ H x y v u Q I rx ry z) (fun z => h' pins s σ H x y v u Q I rx ry z)
end
end DL

/-! The data layer: expressions -/
namespace DL
open PySem L2

/-- what is to be read at an address that may change -/
def resO (a : Addr) : Option MO → D
  | some (.lst ds) => .lst ds
  | some (.dic kvs) => .dic kvs
  | _ => .obj a
def res (M : Mem) : D → D
  | .obj a => resO a (M a)
  | .non => .non
  | .bl b => .bl b
  | .int i => .int i
  | .str s => .str s
  | .lst xs => .lst xs
  | .tup xs => .tup xs
  | .dic kvs => .dic kvs
  | .scr ns => .scr ns
  | .ty n => .ty n
section
variable {K : PySem.W.Frag} {H G : Hp} {M : Mem} {v : V} {d : D}
theorem Rep.obj_lst {a : Addr} {ds : List D} (ok : Ok K H G M) (e : resO a (M a) = .lst ds) : M a = some (.lst ds) := by
  cases q : M a with
  | none => rw [q] at e; cases e
  | some m =>
    rw [q] at e
    cases m with
    | lst es => cases e; rfl
    | dic kvs => cases e
    | ins C fs => cases e
theorem Rep.obj_dic {a : Addr} {ds : List (Str × D)} (ok : Ok K H G M) (e : resO a (M a) = .dic ds) : M a = some (.dic ds) := by
  cases q : M a with
  | none => rw [q] at e; cases e
  | some m =>
    rw [q] at e
    cases m with
    | lst es => cases e
    | dic kvs => cases e; rfl
    | ins C fs => cases e
theorem resO_ne {a : Addr} {o : Option MO} {d : D} (e : resO a o = d) : (∃ ds, d = .lst ds) ∨ (∃ kvs, d = .dic kvs) ∨ d = .obj a := by
  subst e
  cases o with
  | none => exact .inr (.inr rfl)
  | some m =>
    cases m with
    | lst es => exact .inl ⟨_, rfl⟩
    | dic kvs => exact .inr (.inl ⟨_, rfl⟩)
    | ins C fs => exact .inr (.inr rfl)
theorem Rep.lstOf {ds : List D} (ok : Ok K H G M) (r : Rep K G v d) (e : res M d = .lst ds) : ∃ a vs, v = .ref a ∧ H a = some (.lst vs) ∧ RepL K G vs ds ∧ ds.length ≤ sizeLine := by
  cases r with
  | lst h q z => cases e; exact ⟨_, _, rfl, ok.sub _ _ h, q, z⟩
  | obj a =>
    obtain ⟨_, vs, h1, h2, z⟩ := ok.mem _ _ (Rep.obj_lst ok e)
    exact ⟨_, vs, rfl, h1, h2, z⟩
  | non => cases e
  | bl => cases e
  | int => cases e
  | str => cases e
  | tup => cases e
  | dic => cases e
  | scr => cases e
  | ty => cases e
theorem Rep.dicOf {ds : List (Str × D)} (ok : Ok K H G M) (r : Rep K G v d) (e : res M d = .dic ds) : ∃ a kv, v = .ref a ∧ H a = some (.dK kv) ∧ kv.map (·.1) = ds.map (fun p => (Sum.inr p.1 : Key)) ∧ RepL K G (kv.map (·.2)) (ds.map (·.2)) := by
  cases r with
  | dic h k q => cases e; exact ⟨_, _, rfl, ok.sub _ _ h, k, q⟩
  | obj a =>
    obtain ⟨_, vs, h1, h2, z⟩ := ok.mem _ _ (Rep.obj_dic ok e)
    exact ⟨_, vs, rfl, h1, h2, z⟩
  | non => cases e
  | bl => cases e
  | int => cases e
  | str => cases e
  | tup => cases e
  | lst => cases e
  | scr => cases e
  | ty => cases e
theorem Rep.tupOf {ds : List D} (ok : Ok K H G M) (r : Rep K G v d) (e : res M d = .tup ds) : ∃ a vs, v = .ref a ∧ H a = some (.tup vs) ∧ RepL K G vs ds ∧ ds.length ≤ sizeLine := by
  cases r with
  | tup h q z => cases e; exact ⟨_, _, rfl, ok.sub _ _ h, q, z⟩
  | obj a => rcases resO_ne e with ⟨_, z⟩ | ⟨_, z⟩ | z <;> cases z
  | non => cases e
  | bl => cases e
  | int => cases e
  | str => cases e
  | lst => cases e
  | dic => cases e
  | scr => cases e
  | ty => cases e
theorem Rep.scrOf {ns : List Int} (ok : Ok K H G M) (r : Rep K G v d) (e : res M d = .scr ns) : ∃ a, v = .ref a ∧ SqL K H a (ns.map V.int) := by
  cases r with
  | scr h => cases e; exact ⟨_, rfl, ok.sub.seq h⟩
  | obj a => rcases resO_ne e with ⟨_, z⟩ | ⟨_, z⟩ | z <;> cases z
  | non => cases e
  | bl => cases e
  | int => cases e
  | str => cases e
  | lst => cases e
  | tup => cases e
  | dic => cases e
  | ty => cases e
theorem Rep.intOf {i : Int} (r : Rep K G v d) (e : res M d = .int i) : v = .int i := by
  cases r with
  | int => cases e; rfl
  | obj a => rcases resO_ne e with ⟨_, z⟩ | ⟨_, z⟩ | z <;> cases z
  | _ => cases e
theorem Rep.strOf {s : Str} (r : Rep K G v d) (e : res M d = .str s) : v = .str s ∧ strOk s = true := by
  cases r with
  | str _ h => cases e; exact ⟨rfl, h⟩
  | obj a => rcases resO_ne e with ⟨_, z⟩ | ⟨_, z⟩ | z <;> cases z
  | _ => cases e
theorem Rep.blOf {b : Bool} (r : Rep K G v d) (e : res M d = .bl b) : v = .bl b := by
  cases r with
  | bl => cases e; rfl
  | obj a => rcases resO_ne e with ⟨_, z⟩ | ⟨_, z⟩ | z <;> cases z
  | _ => cases e
theorem Rep.nonOf (r : Rep K G v d) (e : res M d = .non) : v = .non := by
  cases r with
  | non => rfl
  | obj a => rcases resO_ne e with ⟨_, z⟩ | ⟨_, z⟩ | z <;> cases z
  | _ => cases e
end

theorem res_tup {M : Mem} {d : D} {ds : List D} (e : res M d = .tup ds) : d = .tup ds := by
  cases d with
  | obj a => rcases resO_ne (show resO a (M a) = _ from e) with ⟨_, z⟩ | ⟨_, z⟩ | z <;> cases z
  | _ => exact e
/-! ### texts that are sound -/
theorem len_append (a b : Str) : (a ++ b).length = a.length + b.length := by
  show (a.cps ++ b.cps).size = a.cps.size + b.cps.size
  exact Array.size_append
theorem strOk_append {a b : Str} (h : strOk a = true) (k : strOk b = true) (l : a.length + b.length ≤ sizeLine) : strOk (a ++ b) = true := by
  refine strOk_mk ?_ (by rw [len_append]; exact l)
  have h := strOk_snd h
  have k := strOk_snd k
  unfold PyData.strOk at *
  rw [show (a ++ b).cps = a.cps ++ b.cps from rfl]
  simp_all [Array.all_append]

/-! ### names, constants, operators -/
def el {α : Type} : Option α → (α → Prop) → Prop
  | some d, F => F d
  | none, _ => False
theorem el_of {α : Type} {o : Option α} {F : α → Prop} (h : el o F) : ∃ d, o = some d ∧ F d := by
  cases o with
  | none => exact h.elim
  | some d => exact ⟨d, rfl, h⟩
def dVar (i : Nat) : DE := fun δ M Q _ => el (slot δ i) fun d => Q d M
def dC (d : D) : DE := fun _ M Q _ => Q d M
def dOp (o : D → D → Mem → QD → Prop) (ta tb : DE) : DE := fun δ M Q X => ta δ M (fun x M1 => tb δ M1 (fun y M2 => o x y M2 Q) X) X
def dUn (o : D → Mem → QD → Prop) (ta : DE) : DE := fun δ M Q X => ta δ M (fun x M1 => o x M1 Q) X
def LOp (K : PySem.W.Frag) (r : R2) (o : D → D → Mem → QD → Prop) : Prop := ∀ (x y : V) (H G : Hp) (M : Mem) (dx dy : D) (Q : VK) (Q' : QD), Ok K H G M → Rep K G x dx → Rep K G y dy → o dx dy M Q' →
  (∀ d M' v H' G', Q' d M' → Ok K H' G' M' → Same G G' → Rep K G' v d → Q v H') → r x y H Q
def LUn (K : PySem.W.Frag) (r : V → Hp → VK → Prop) (o : D → Mem → QD → Prop) : Prop := ∀ (x : V) (H G : Hp) (M : Mem) (dx : D) (Q : VK) (Q' : QD), Ok K H G M → Rep K G x dx → o dx M Q' →
  (∀ d M' v H' G', Q' d M' → Ok K H' G' M' → Same G G' → Rep K G' v d → Q v H') → r x H Q
section
variable {X : Cx} {W : WX} {a b c e : Expr} {ta tb tc te : DE} {pos : Pos} {K : PySem.W.Frag}
theorem pd_v (i : Nat) {x : Str} {pos : Pos} (hN : X.N[i]? = some x := by rfl) (hv : Vis X.env.scope x := by first | exact Or.inl rfl | exact Or.inr (Or.inl rfl) | exact Or.inr (Or.inr rfl)) (hd : (x == ("__debug__" : Str)) = false := by decide)
    (hcd : (x == ("__classdict__" : Str)) = false := by decide) : PD X W (.Name x pos) (dVar i) := by
  refine PEw (pe_var hN hv hd hcd) fun σ H Q ⟨G, M, δ, Q', X', ok, sl, h, hq, hx⟩ => ?_
  obtain ⟨d, e, h⟩ := el_of h
  obtain ⟨v, h1, h2⟩ := sl.get e
  exact ⟨v, h1, hq d M v H G h ok (Same.refl _) h2⟩
theorem pd_c {v : V} {d : D} (h : PE X e (tC v)) (r : ∀ G, Rep X.K G v d) : PD X W e (dC d) :=
  PEw h fun σ H Q ⟨G, M, δ, Q', X', ok, sl, h, hq, hx⟩ => hq d M v H G h ok (Same.refl _) (r G)
theorem pd_int {i j pos} : PD X W (.Constant (.int i) j pos) (dC (.int i)) := pd_c pe_int fun _ => .int i
theorem pd_bl {b j pos} : PD X W (.Constant (.bool b) j pos) (dC (.bl b)) := pd_c pe_bl fun _ => .bl b
theorem pd_non {j pos} : PD X W (.Constant .none j pos) (dC .non) := pd_c pe_non fun _ => .non
theorem pd_str {x j pos} (h : strOk x = true := by rfl) : PD X W (.Constant (.str x) j pos) (dC (.str x)) := pd_c pe_str fun _ => .str x h
theorem pd_glob {x : Str} {v : V} {d : D} {u : Value} {pos : Pos} (hg : Gl X x) (hm : X.mg x = some u) (r : RelV v u) (q : ∀ G, Rep X.K G v d) (hd : (x == ("__debug__" : Str)) = false := by decide) : PD X W (.Name x pos) (dC d) :=
  pd_c (pe_glob hg hm r hd) q
theorem up_op {r : R2} {o : D → D → Mem → QD → Prop} (l : LOp K r o) {σ : L2.St} {H : Hp} {Q : VK} (h : up K W (dOp o ta tb) σ H Q) : tOp r (up K W ta) (up K W tb) σ H Q := by
  obtain ⟨G, M, δ, Q', X', ok, sl, h, hq, hx⟩ := h
  exact ⟨G, M, δ, _, X', ok, sl, h, fun d M1 v H1 G1 h1 ok1 e1 r1 => ⟨G1, M1, δ, _, X', ok1, sl.mono e1, h1, fun d2 M2 v2 H2 G2 h2 ok2 e2 r2 =>
    l v v2 H2 G2 M2 d d2 Q Q' ok2 (r1.mono e2) r2 h2 fun d3 M3 v3 H3 G3 h3 ok3 e3 r3 => hq d3 M3 v3 H3 G3 h3 ok3 (e1.trans (e2.trans e3)) r3, hx.mono e1⟩, hx⟩
theorem pd_op {op : Operator} {r : R2} {o : D → D → Mem → QD → Prop} (ho : OpR X (binaryOp op) r) (l : LOp X.K r o) (ha : PD X W a ta) (hb : PD X W b tb) : PD X W (.BinOp a op b pos) (dOp o ta tb) :=
  PEw (pe_op ho ha hb) fun _ _ _ h => up_op l h
theorem pd_un {op : UnaryOp} {r : V → Hp → VK → Prop} {o : D → Mem → QD → Prop} (ho : UnR X (unaryOp op) r) (l : LUn X.K r o) (ha : PD X W a ta) : PD X W (.UnaryOp op a pos) (dUn o ta) :=
  PEw (pe_un ho ha) fun σ H Q ⟨G, M, δ, Q', X', ok, sl, h, hq, hx⟩ => ⟨G, M, δ, _, X', ok, sl, h, fun d M1 v H1 G1 h1 ok1 e1 r1 =>
    l v H1 G1 M1 d Q Q' ok1 r1 h1 fun d3 M3 v3 H3 G3 h3 ok3 e3 r3 => hq d3 M3 v3 H3 G3 h3 ok3 (e1.trans e3) r3, hx⟩
end

/-! ### the operators -/
def oAdd (x y : D) (M : Mem) (Q : QD) : Prop := match res M x, res M y with
  | .int i, .int j => Q (.int (i + j)) M
  | .str a, .str b => a.length + b.length ≤ sizeLine ∧ Q (.str (a ++ b)) M
  | .lst a, .lst b => a.length + b.length ≤ sizeLine ∧ Q (.lst (a ++ b)) M
  | .tup a, .tup b => a.length + b.length ≤ sizeLine ∧ Q (.tup (a ++ b)) M
  | _, _ => False
def oInt (C : Int → Int → Prop) (g : Int → Int → D) (x y : D) (M : Mem) (Q : QD) : Prop := match res M x, res M y with
  | .int i, .int j => C i j ∧ Q (g i j) M
  | _, _ => False
def oInt0 (g : Int → Int → D) (x y : D) (M : Mem) (Q : QD) : Prop := match res M x, res M y with
  | .int i, .int j => Q (g i j) M
  | _, _ => False
abbrev oSub := oInt0 fun i j => .int (i - j)
abbrev oMul := oInt CMul fun i j => .int (i * j)
abbrev oDiv := oInt CDiv fun i j => .int (i / j)
abbrev oMod := oInt (fun _ j => 0 < j) fun i j => .int (i % j)
abbrev oPow := oInt CPow fun i j => .int (i ^ j.toNat)
abbrev oLt := oInt0 fun i j => .bl (decide (i < j))
abbrev oLe := oInt0 fun i j => .bl (decide (i ≤ j))
abbrev oGt := oInt0 fun i j => .bl (decide (j < i))
abbrev oGe := oInt0 fun i j => .bl (decide (j ≤ i))
def oNeg (x : D) (M : Mem) (Q : QD) : Prop := match res M x with
  | .int i => Q (.int (-i)) M
  | _ => False

section
variable {X : Cx} {W : WX} {a b c e : Expr} {ta tb tc te : DE} {pos : Pos} {K : PySem.W.Frag}
theorem l_int0 {g : Int → Int → V} {g' : Int → Int → D} (q : ∀ G i j, Rep K G (g i j) (g' i j)) : LOp K (rI0 g) (oInt0 g') := by
  intro x y H G M dx dy Q Q' ok rx ry h hq
  unfold oInt0 at h
  split at h
  · rename_i i j e1 e2
    exact ⟨i, j, rx.intOf e1, ry.intOf e2, hq _ _ _ _ _ h ok (Same.refl _) (q _ _ _)⟩
  · exact h.elim
theorem l_int {C : Int → Int → Prop} {g : Int → Int → V} {g' : Int → Int → D} (q : ∀ G i j, Rep K G (g i j) (g' i j)) : LOp K (rI C g) (oInt C g') := by
  intro x y H G M dx dy Q Q' ok rx ry h hq
  unfold oInt at h
  split at h
  · rename_i i j e1 e2
    exact ⟨i, j, rx.intOf e1, ry.intOf e2, h.1, hq _ _ _ _ _ h.2 ok (Same.refl _) (q _ _ _)⟩
  · exact h.elim
def rAddA (K : PySem.W.Frag) : R2 := fun x y H Q => ((rI0 fun i j => .int (i + j)) x y H Q ∨ (∃ i j, x = .str i ∧ y = .str j ∧ i.length + j.length ≤ sizeLine ∧ Q (.str (i ++ j)) H)) ∨ (rCat x y H Q ∨ rCatA K x y H Q)
theorem op_addA : OpR X (binaryOp .Add) (rAddA X.K) := OpR.or (OpR.or op_add op_add_str) (OpR.or op_cat op_catA)
theorem l_add : LOp K (rAddA K) oAdd := by
  intro x y H G M dx dy Q Q' ok rx ry h hq
  unfold oAdd at h
  split at h
  · rename_i i j e1 e2
    exact .inl (.inl ⟨i, j, rx.intOf e1, ry.intOf e2, hq _ _ _ _ _ h ok (Same.refl _) (.int _)⟩)
  · rename_i i j e1 e2
    obtain ⟨f1, k1⟩ := rx.strOf e1
    obtain ⟨f2, k2⟩ := ry.strOf e2
    exact .inl (.inr ⟨i, j, f1, f2, h.1, hq _ _ _ _ _ h.2 ok (Same.refl _) (.str _ (strOk_append k1 k2 h.1))⟩)
  · rename_i as bs e1 e2
    obtain ⟨p1, v1, f1, h1, q1, z1⟩ := rx.lstOf ok e1
    obtain ⟨p2, v2, f2, h2, q2, z2⟩ := ry.lstOf ok e2
    refine .inr (.inl ⟨p1, p2, v1, v2, f1, f2, h1, h2, by rw [q1.len, q2.len]; exact h.1, fun p hp => ?_⟩)
    have gp := ok.gnone hp
    exact hq _ _ _ _ _ h.2 (ok.frozen hp) (same_upd gp) (.lst upd_same ((q1.append q2).mono (same_upd gp)) (by rw [List.length_append]; exact h.1))
  · rename_i as bs e1 e2
    obtain ⟨p1, v1, f1, h1, q1, z1⟩ := rx.tupOf ok e1
    obtain ⟨p2, v2, f2, h2, q2, z2⟩ := ry.tupOf ok e2
    have l1 := q1.len
    have l2 := q2.len
    refine .inr (.inr ⟨p1, p2, v1, v2, f1, f2, SqT.of h1, SqT.of h2, by rw [l1, l2]; exact h.1, fun z => ?_, fun z1 z2 => ?_, fun _ _ p hp => ?_⟩)
    · subst z
      have : as = [] := List.length_eq_zero_iff.mp l1.symm
      subst this
      have e3 := res_tup e2
      subst e3
      subst f2
      exact hq _ _ _ _ _ h.2 ok (Same.refl _) (by simpa using ry)
    · subst z2
      have : bs = [] := List.length_eq_zero_iff.mp l2.symm
      subst this
      have e3 := res_tup e1
      subst e3
      subst f1
      exact hq _ _ _ _ _ h.2 ok (Same.refl _) (by simpa using rx)
    · have gp := ok.gnone hp
      exact hq _ _ _ _ _ h.2 (ok.frozen hp) (same_upd gp) (.tup upd_same ((q1.append q2).mono (same_upd gp)) (by rw [List.length_append]; exact h.1))
  · exact h.elim
theorem pd_add (ha : PD X W a ta) (hb : PD X W b tb) : PD X W (.BinOp a .Add b pos) (dOp oAdd ta tb) := pd_op op_addA l_add ha hb
theorem pd_sub (ha : PD X W a ta) (hb : PD X W b tb) : PD X W (.BinOp a .Sub b pos) (dOp oSub ta tb) := pd_op op_sub (l_int0 fun _ _ _ => .int _) ha hb
theorem pd_mul (ha : PD X W a ta) (hb : PD X W b tb) : PD X W (.BinOp a .Mult b pos) (dOp oMul ta tb) := pd_op op_mul (l_int fun _ _ _ => .int _) ha hb
theorem pd_div (ha : PD X W a ta) (hb : PD X W b tb) : PD X W (.BinOp a .FloorDiv b pos) (dOp oDiv ta tb) := pd_op op_fdiv (l_int fun _ _ _ => .int _) ha hb
theorem pd_mod (ha : PD X W a ta) (hb : PD X W b tb) : PD X W (.BinOp a .Mod b pos) (dOp oMod ta tb) := pd_op op_mod (l_int fun _ _ _ => .int _) ha hb
theorem pd_pow (ha : PD X W a ta) (hb : PD X W b tb) : PD X W (.BinOp a .Pow b pos) (dOp oPow ta tb) := pd_op op_pow (l_int fun _ _ _ => .int _) ha hb
theorem pd_neg (ha : PD X W a ta) : PD X W (.UnaryOp .USub a pos) (dUn oNeg ta) := pd_un un_neg (fun x H G M dx Q Q' ok rx h hq => by
  unfold oNeg at h
  split at h
  · rename_i i e1
    exact ⟨i, rx.intOf e1, hq _ _ _ _ _ h ok (Same.refl _) (.int _)⟩
  · exact h.elim) ha
end
end DL

/-! The data layer: comparisons and tests -/
namespace DL
open PySem L2

/-! ### == over data -/
mutual
def toPy : D → PyData
  | .non => .none
  | .bl b => .bool b
  | .int i => .int i
  | .str s => .str s
  | .lst xs => .list (toPyL xs)
  | .tup xs => .tuple (toPyL xs)
  | .dic _ => .none
  | .scr _ => .none
  | .obj _ => .none
  | .ty _ => .none
def toPyL : List D → List PyData
  | [] => []
  | x :: xs => toPy x :: toPyL xs
end
mutual
/-- none, bools, ints, texts, lists, tuples, at most n deep -/
def flatN : Nat → D → Bool
  | _, .non => true
  | _, .bl _ => true
  | _, .int _ => true
  | _, .str _ => true
  | n + 1, .lst xs => flatL n xs
  | n + 1, .tup xs => flatL n xs
  | _, _ => false
def flatL : Nat → List D → Bool
  | _, [] => true
  | n, x :: xs => flatN n x && flatL n xs
end
theorem flatL_all (n : Nat) : ∀ xs : List D, flatL n xs = xs.all (flatN n)
  | [] => rfl
  | x :: xs => by unfold flatL; rw [flatL_all n xs, List.all_cons]
section
variable {K : PySem.W.Frag} {H G : Hp}
mutual
theorem Rep.dp (e : Same G H) : ∀ {n : Nat} {v : V} {d : D}, Rep K G v d → flatN n d = true → Dp K H v (toPy d) ∧ (toPy d).canLay0 = true ∧ (toPy d).depth ≤ n
  | n, _, _, .non, _ => ⟨.non, rfl, by simp [toPy, PyData.depth]⟩
  | n, _, _, .bl b, _ => ⟨.bl b, rfl, by simp [toPy, PyData.depth]⟩
  | n, _, _, .int i, _ => ⟨.int i, rfl, by simp [toPy, PyData.depth]⟩
  | n, _, _, .str s h, _ => ⟨.str s, strOk_snd h, by simp [toPy, PyData.depth]⟩
  | 0, _, _, .lst h r z, f => by simp [flatN] at f
  | 0, _, _, .tup h r z, f => by simp [flatN] at f
  | n + 1, _, _, .lst h r z, f => by
    obtain ⟨a, b, c⟩ := RepL.dp e (n := n) r (by simpa [flatN] using f)
    exact ⟨.lst (SqL.of (e _ _ h)) a, b, by simp only [toPy, PyData.depth]; omega⟩
  | n + 1, _, _, .tup h r z, f => by
    obtain ⟨a, b, c⟩ := RepL.dp e (n := n) r (by simpa [flatN] using f)
    exact ⟨.tup (SqT.of (e _ _ h)) a, b, by simp only [toPy, PyData.depth]; omega⟩
  | n, _, _, .dic h k r, f => by cases n <;> simp [flatN] at f
  | n, _, _, .scr h, f => by cases n <;> simp [flatN] at f
  | n, _, _, .obj a, f => by cases n <;> simp [flatN] at f
  | n, _, _, .ty a, f => by cases n <;> simp [flatN] at f
theorem RepL.dp (e : Same G H) : ∀ {n : Nat} {vs : List V} {ds : List D}, RepL K G vs ds → flatL n ds = true → DpAll K H vs (toPyL ds) ∧ PyData.canLayAll0 (toPyL ds) = true ∧ PyData.depthAll (toPyL ds) ≤ n
  | n, _, _, .nil, _ => ⟨.nil, rfl, Nat.zero_le _⟩
  | n, _, _, .cons h t, f => by
    unfold flatL at f
    rw [Bool.and_eq_true] at f
    obtain ⟨a, b, c⟩ := Rep.dp e (n := n) h f.1
    obtain ⟨a2, b2, c2⟩ := RepL.dp e (n := n) t f.2
    exact ⟨.cons a a2, by simp only [toPyL, PyData.canLayAll0, b, b2]; rfl, by simp only [toPyL, PyData.depthAll]; omega⟩
end
end
def D.eqv (x y : D) : Bool := PyData.eqv (toPy x) (toPy y)
def D.eqvL (xs ys : List D) : Bool := PyData.eqvAll (toPyL xs) (toPyL ys)
/-- == of scalars, where the kinds are told -/
def eqS : D → D → Option Bool
  | .non, .non => some true
  | .non, .int _ => some false
  | .int _, .non => some false
  | .non, .bl _ => some false
  | .bl _, .non => some false
  | .non, .str _ => some false
  | .str _, .non => some false
  | .int _, .str _ => some false
  | .str _, .int _ => some false
  | .bl _, .str _ => some false
  | .str _, .bl _ => some false
  | .int i, .int j => some (decide (i = j))
  | .bl i, .bl j => some (decide (i = j))
  | .str i, .str j => some (decide (i = j))
  | _, _ => none
def oEqN (neg : Bool) (x y : D) (M : Mem) (Q : QD) : Prop := match eqS x y with
  | some b => Q (.bl (cond neg (!b) b)) M
  | none => flatN 9 (res M x) = true ∧ flatN 9 (res M y) = true ∧ Q (.bl (cond neg (!D.eqv (res M x) (res M y)) (D.eqv (res M x) (res M y)))) M
abbrev oEq := oEqN false
abbrev oNe := oEqN true
section
variable {K : PySem.W.Frag} {H G : Hp} {M : Mem}
theorem Rep.eqS {v w : V} {x y : D} {b : Bool} (rx : Rep K G v x) (ry : Rep K G w y) (e : eqS x y = some b) : scal v w = true ∧ decide (v = w) = b := by
  cases rx <;> cases ry <;> first | (cases e; done) | skip
  all_goals first | (cases e; exact ⟨rfl, by simp⟩) | (cases e; exact ⟨rfl, rfl⟩) | (simp [DL.eqS] at e; exact ⟨rfl, by rw [← e]; simp⟩)
theorem Rep.resDp {v : V} {d : D} (ok : Ok K H G M) (r : Rep K G v d) (f : flatN 9 (res M d) = true) : Dp K H v (toPy (res M d)) ∧ SeqAt.shaped (toPy (res M d)) = true := by
  have fin : ∀ {d' : D}, (Dp K H v (toPy d') ∧ (toPy d').canLay0 = true ∧ (toPy d').depth ≤ 9) → Dp K H v (toPy d') ∧ SeqAt.shaped (toPy d') = true := fun ⟨a, b, c⟩ =>
    ⟨a, by unfold SeqAt.shaped; rw [b, Bool.true_and]; exact decide_eq_true (by omega)⟩
  cases r with
  | obj a =>
    cases q : res M (.obj a) with
    | lst ds =>
      rw [q] at f
      obtain ⟨_, vs, h1, h2, z⟩ := ok.mem _ _ (Rep.obj_lst ok q)
      obtain ⟨a1, b1, c1⟩ := RepL.dp ok.sub (n := 8) h2 (by simpa [flatN] using f)
      exact fin ⟨.lst (SqL.of h1) a1, b1, by simp only [toPy, PyData.depth]; omega⟩
    | dic kvs => rw [q] at f; simp [flatN] at f
    | obj b => rw [q] at f; simp [flatN] at f
    | _ => rcases resO_ne q with ⟨_, z⟩ | ⟨_, z⟩ | z <;> cases z
  | non => exact fin (Rep.dp ok.sub .non f)
  | bl b => exact fin (Rep.dp ok.sub (.bl b) f)
  | int i => exact fin (Rep.dp ok.sub (.int i) f)
  | str s h => exact fin (Rep.dp ok.sub (.str s h) f)
  | lst h q z => exact fin (Rep.dp ok.sub (.lst h q z) f)
  | tup h q z => exact fin (Rep.dp ok.sub (.tup h q z) f)
  | dic h k q => exact fin (Rep.dp ok.sub (.dic h k q) f)
  | scr h => exact fin (Rep.dp ok.sub (.scr h) f)
  | ty h => exact fin (Rep.dp ok.sub (.ty h) f)
def rEqA (K : PySem.W.Frag) : R2 := fun x y H Q => rEq x y H Q ∨ rEqD K x y H Q
def rNeA (K : PySem.W.Frag) : R2 := fun x y H Q => rNe x y H Q ∨ rNeD K x y H Q
theorem l_eq : LOp K (rEqA K) oEq := by
  intro x y H G M dx dy Q Q' ok rx ry h hq
  unfold oEq oEqN at h
  split at h
  · rename_i b e
    obtain ⟨s, q⟩ := rx.eqS ry e
    exact .inl ⟨s, by rw [q]; exact hq _ _ _ _ _ h ok (Same.refl _) (.bl _)⟩
  · obtain ⟨f1, f2, h⟩ := h
    obtain ⟨a1, b1⟩ := rx.resDp ok f1
    obtain ⟨a2, b2⟩ := ry.resDp ok f2
    exact .inr ⟨_, _, a1, a2, b1, b2, hq _ _ _ _ _ h ok (Same.refl _) (.bl _)⟩
theorem l_ne : LOp K (rNeA K) oNe := by
  intro x y H G M dx dy Q Q' ok rx ry h hq
  unfold oNe oEqN at h
  split at h
  · rename_i b e
    obtain ⟨s, q⟩ := rx.eqS ry e
    exact .inl ⟨s, by rw [q]; exact hq _ _ _ _ _ h ok (Same.refl _) (.bl _)⟩
  · obtain ⟨f1, f2, h⟩ := h
    obtain ⟨a1, b1⟩ := rx.resDp ok f1
    obtain ⟨a2, b2⟩ := ry.resDp ok f2
    exact .inr ⟨_, _, a1, a2, b1, b2, hq _ _ _ _ _ h ok (Same.refl _) (.bl _)⟩
end

/-! ### in -/
def flatD : D → Bool
  | .non => true
  | .bl _ => true
  | .int _ => true
  | .str _ => true
  | _ => false
def eqF : D → D → Bool
  | .non, .non => true
  | .bl a, .bl b => a == b
  | .bl a, .int b => (if a then 1 else 0) == b
  | .int a, .bl b => a == (if b then 1 else 0)
  | .int a, .int b => a == b
  | .str a, .str b => a == b
  | _, _ => false
def inD (x : D) (xs : List D) : Bool := xs.any fun y => eqF y x
def oInN (neg : Bool) (x y : D) (M : Mem) (Q : QD) : Prop := match res M y with
  | .lst ds => flatD x = true ∧ ds.all flatD = true ∧ Q (.bl (cond neg (!inD x ds) (inD x ds))) M
  | .tup ds => flatD x = true ∧ ds.all flatD = true ∧ Q (.bl (cond neg (!inD x ds) (inD x ds))) M
  | .str z => (match x with
    | .str ⟨⟨[c]⟩⟩ => Q (.bl (cond neg (!decide (c ∈ z.cps.toList)) (decide (c ∈ z.cps.toList)))) M
    | _ => False)
  | _ => False
abbrev oIn := oInN false
abbrev oNotIn := oInN true
section
variable {K : PySem.W.Frag} {H G : Hp} {M : Mem}
theorem Rep.flat {v : V} {d : D} (r : Rep K G v d) (f : flatD d = true) : flatV v = true := by
  cases r <;> first | rfl | cases f
theorem RepL.flat : ∀ {vs : List V} {ds : List D}, RepL K G vs ds → ds.all flatD = true → vs.all flatV = true
  | _, _, .nil, _ => rfl
  | _, _, .cons h t, f => by
    rw [List.all_cons, Bool.and_eq_true] at f ⊢
    exact ⟨h.flat f.1, t.flat f.2⟩
theorem Rep.eqF {v w : V} {x y : D} (rx : Rep K G v x) (ry : Rep K G w y) : flatD x = true → flatD y = true → eqV v w = eqF x y := by
  intro f g
  cases rx <;> first | (cases f; done) | skip
  all_goals (cases ry <;> first | (cases g; done) | rfl)
theorem RepL.inD {v : V} {x : D} (rx : Rep K G v x) (fx : flatD x = true) : ∀ {vs : List V} {ds : List D}, RepL K G vs ds → ds.all flatD = true → inV v vs = inD x ds
  | _, _, .nil, _ => rfl
  | _, _, .cons h t, f => by
    rw [List.all_cons, Bool.and_eq_true] at f
    unfold inV DL.inD
    rw [List.any_cons, List.any_cons, h.eqF rx f.1 fx]
    exact congrArg _ (RepL.inD rx fx t f.2)
def rInA (K : PySem.W.Frag) : R2 := fun x y H Q => rIn K false x y H Q ∨ ∃ (c : Nat) (z : Str), x = .str ⟨#[c]⟩ ∧ y = .str z ∧ Q (.bl (decide (c ∈ z.cps.toList))) H
def rNotInA (K : PySem.W.Frag) : R2 := fun x y H Q => rIn K true x y H Q ∨ ∃ (c : Nat) (z : Str), x = .str ⟨#[c]⟩ ∧ y = .str z ∧ Q (.bl (!decide (c ∈ z.cps.toList))) H
theorem l_inG {neg : Bool} {r : R2} (hr : ∀ x y H Q, rIn K neg x y H Q → r x y H Q) (hs : ∀ x y H Q, (∃ (c : Nat) (z : Str), x = .str ⟨#[c]⟩ ∧ y = .str z ∧ Q (.bl (cond neg (!decide (c ∈ z.cps.toList)) (decide (c ∈ z.cps.toList)))) H) → r x y H Q) : LOp K r (oInN neg) := by
  intro x y H G M dx dy Q Q' ok rx ry h hq
  unfold oInN at h
  have bb : ∀ b c : Bool, (if neg = true then b else c) = cond neg b c := by cases neg <;> intros <;> rfl
  split at h
  · rename_i ds e
    obtain ⟨p, vs, f, h1, q, z⟩ := ry.lstOf ok e
    obtain ⟨fx, fs, h⟩ := h
    exact hr _ _ _ _ ⟨p, vs, f, .inl (SqL.of h1), rx.flat fx, q.flat fs, by rw [q.inD rx fx fs, bb]; exact hq _ _ _ _ _ h ok (Same.refl _) (.bl _)⟩
  · rename_i ds e
    obtain ⟨p, vs, f, h1, q, z⟩ := ry.tupOf ok e
    obtain ⟨fx, fs, h⟩ := h
    exact hr _ _ _ _ ⟨p, vs, f, .inr (SqT.of h1), rx.flat fx, q.flat fs, by rw [q.inD rx fx fs, bb]; exact hq _ _ _ _ _ h ok (Same.refl _) (.bl _)⟩
  · rename_i z e
    split at h
    · rename_i c
      cases rx
      exact hs _ _ _ _ ⟨c, z, rfl, (ry.strOf e).1, hq _ _ _ _ _ h ok (Same.refl _) (.bl _)⟩
    · exact h.elim
  · exact h.elim
end

/-! ### comparisons as values, as tests -/
def asB (d : D) (M : Mem) (Q : Bool → Mem → Prop) : Prop := match d with
  | .bl b => Q b M
  | _ => False
def dB (t : DE) : DT := fun δ M Q X => t δ M (fun d M1 => asB d M1 Q) X
def isN : D → Bool
  | .non => true
  | _ => false
def dIsN (neg : Bool) (t : DE) : DE := fun δ M Q X => t δ M (fun d M1 => Q (.bl (cond neg (!isN d) (isN d))) M1) X
def dChain (o o' : D → D → Mem → QD → Prop) (ta tb tc : DE) : DE := fun δ M Q X => ta δ M (fun x M1 => tb δ M1 (fun y M2 => o x y M2 fun z M3 => asB z M3 fun b M3 => cond b (tc δ M3 (fun w M4 => o' y w M4 Q) X) (Q (.bl false) M3)) X) X
section
variable {X : Cx} {W : WX} {a b c e : Expr} {ta tb tc te : DE} {pos : Pos} {K : PySem.W.Frag} {op op' : CmpOp} {r r' : R2} {o o' : D → D → Mem → QD → Prop}
theorem asB_of {G : Hp} {M : Mem} {d : D} {v : V} {Q : Bool → Mem → Prop} (h : asB d M Q) (r : Rep K G v d) : ∃ k, v = .bl k ∧ Q k M := by
  unfold asB at h
  split at h
  · cases r; exact ⟨_, rfl, h⟩
  · exact h.elim
theorem up_B {t : DE} {σ : L2.St} {H : Hp} {Q : Bool → Hp → Prop} (h : upT K W (dB t) σ H Q) : up K W t σ H fun x H' => ∃ k, x = .bl k ∧ Q k H' := by
  obtain ⟨G, M, δ, Q', X', ok, sl, h, hq, hx⟩ := h
  refine ⟨G, M, δ, _, X', ok, sl, h, fun d M' v H' G' h1 ok' e' r' => ?_, hx⟩
  obtain ⟨k, e1, h2⟩ := asB_of h1 r'
  exact ⟨k, e1, hq k M' H' G' h2 ok' e'⟩
theorem pd_cmp (ho : OpR X (compareOp op) r) (l : LOp X.K r o) (ha : PD X W a ta) (hb : PD X W b tb) (hm : behindInMarks op b = false := by rfl) : PD X W (.Compare a [op] [b] pos) (dOp o ta tb) :=
  PEw (pe_cmpR ho ha hb hm) fun _ _ _ h => up_op l h
theorem pdt_cmp (ho : OpR X (compareOp op) r) (l : LOp X.K r o) (ha : PD X W a ta) (hb : PD X W b tb) (hm : behindInMarks op b = false := by rfl) : PDT X W (.Compare a [op] [b] pos) (dB (dOp o ta tb)) :=
  PTw (pt_cmpR ho ha hb hm) fun _ _ _ h => up_op l (up_B h)
theorem pdt_val (h : PD X W e te) (he : ∀ whole, isTrue e X.env whole = (do let v ← whole; standAt e.pos; holding [v] (truthy v)) := by intro _; rfl) : PDT X W e (dB te) :=
  PTw (pt_val h he) fun _ _ _ h => up_B h
theorem up_isN {neg : Bool} {t : DE} {σ : L2.St} {H : Hp} {Q : VK} (h : up K W (dIsN neg t) σ H Q) : up K W t σ H fun x H1 => Q (.bl (cond neg (!decide (x = .non)) (decide (x = .non)))) H1 := by
  obtain ⟨G, M, δ, Q', X', ok, sl, h, hq, hx⟩ := h
  refine ⟨G, M, δ, _, X', ok, sl, h, fun d M' v H' G' h1 ok' e' r' => ?_, hx⟩
  have : decide (v = .non) = isN d := by cases r' <;> simp [isN]
  show Q (V.bl (cond neg (!decide (v = .non)) (decide (v = .non)))) H'
  rw [this]
  exact hq _ M' _ H' G' h1 ok' e' (.bl _)
theorem pd_isN {j pos'} (ha : PD X W a ta) : PD X W (.Compare a [.Is] [.Constant .none j pos'] pos) (dIsN false ta) := PEw (pe_cmp (pc_isN ha) rfl) fun _ _ _ h => up_isN h
theorem pd_notN {j pos'} (ha : PD X W a ta) : PD X W (.Compare a [.IsNot] [.Constant .none j pos'] pos) (dIsN true ta) := PEw (pe_cmp (pc_notN ha) rfl) fun _ _ _ h => up_isN h
theorem pdt_isN {j pos'} (ha : PD X W a ta) : PDT X W (.Compare a [.Is] [.Constant .none j pos'] pos) (dB (dIsN false ta)) := PTw (pt_cmp (pc_isN ha) rfl) fun _ _ _ h => up_isN (up_B h)
theorem pdt_notN {j pos'} (ha : PD X W a ta) : PDT X W (.Compare a [.IsNot] [.Constant .none j pos'] pos) (dB (dIsN true ta)) := PTw (pt_cmp (pc_notN ha) rfl) fun _ _ _ h => up_isN (up_B h)
theorem up_chain (l : LOp K r o) (l' : LOp K r' o') {σ : L2.St} {H : Hp} {Q : VK} (h : up K W (dChain o o' ta tb tc) σ H Q) : tChain r r' (up K W ta) (up K W tb) (up K W tc) σ H Q := by
  obtain ⟨G, M, δ, Q', X', ok, sl, h, hq, hx⟩ := h
  refine ⟨G, M, δ, _, X', ok, sl, h, fun d M1 v H1 G1 h1 ok1 e1 r1 => ⟨G1, M1, δ, _, X', ok1, sl.mono e1, h1, fun d2 M2 v2 H2 G2 h2 ok2 e2 r2 => ?_, hx.mono e1⟩, hx⟩
  refine l v v2 H2 G2 M2 d d2 _ _ ok2 (r1.mono e2) r2 h2 fun d3 M3 v3 H3 G3 h3 ok3 e3 r3 => ?_
  obtain ⟨k, ek, h4⟩ := asB_of h3 r3
  refine ⟨k, ek, ?_⟩
  cases k with
  | true =>
    rw [if_pos rfl]
    refine ⟨G3, M3, δ, _, X', ok3, (sl.mono e1).mono (e2.trans e3), h4, fun d5 M5 v5 H5 G5 h5 ok5 e5 r5 => ?_, hx.mono (e1.trans (e2.trans e3))⟩
    exact l' v2 v5 H5 G5 M5 d2 d5 Q Q' ok5 (r2.mono (e3.trans e5)) r5 h5 fun d6 M6 v6 H6 G6 h6 ok6 e6 r6 => hq d6 M6 v6 H6 G6 h6 ok6 (e1.trans (e2.trans (e3.trans (e5.trans e6)))) r6
  | false =>
    rw [if_neg Bool.false_ne_true]
    exact hq _ M3 _ H3 G3 h4 ok3 (e1.trans (e2.trans e3)) (.bl _)
theorem pd_chain (ho : OpR X (compareOp op) r) (ho' : OpR X (compareOp op') r') (l : LOp X.K r o) (l' : LOp X.K r' o') (ha : PD X W a ta) (hb : PD X W b tb) (hc : PD X W c tc)
    (hm : lastMarks [op, op'] [b, c] = false := by with_unfolding_all rfl) : PD X W (.Compare a [op, op'] [b, c] pos) (dChain o o' ta tb tc) := PEw (pe_chain ho ho' ha hb hc hm) fun _ _ _ h => up_chain l l' h
theorem pdt_chain (ho : OpR X (compareOp op) r) (ho' : OpR X (compareOp op') r') (l : LOp X.K r o) (l' : LOp X.K r' o') (ha : PD X W a ta) (hb : PD X W b tb) (hc : PD X W c tc)
    (hm : lastMarks [op, op'] [b, c] = false := by with_unfolding_all rfl) : PDT X W (.Compare a [op, op'] [b, c] pos) (dB (dChain o o' ta tb tc)) := PTw (pt_chain ho ho' ha hb hc hm) fun _ _ _ h => up_chain l l' (up_B h)
abbrev l_cmp {g : Int → Int → Bool} : LOp K (rI0 fun i j => .bl (g i j)) (oInt0 fun i j => .bl (g i j)) := l_int0 fun _ _ _ => .bl _
theorem pd_lt (ha : PD X W a ta) (hb : PD X W b tb) : PD X W (.Compare a [.Lt] [b] pos) (dOp oLt ta tb) := pd_cmp op_lt l_cmp ha hb (nomark _)
theorem pd_le (ha : PD X W a ta) (hb : PD X W b tb) : PD X W (.Compare a [.LtE] [b] pos) (dOp oLe ta tb) := pd_cmp op_le l_cmp ha hb (nomark _)
theorem pd_gt (ha : PD X W a ta) (hb : PD X W b tb) : PD X W (.Compare a [.Gt] [b] pos) (dOp oGt ta tb) := pd_cmp op_gt l_cmp ha hb (nomark _)
theorem pd_ge (ha : PD X W a ta) (hb : PD X W b tb) : PD X W (.Compare a [.GtE] [b] pos) (dOp oGe ta tb) := pd_cmp op_ge l_cmp ha hb (nomark _)
theorem pdt_lt (ha : PD X W a ta) (hb : PD X W b tb) : PDT X W (.Compare a [.Lt] [b] pos) (dB (dOp oLt ta tb)) := pdt_cmp op_lt l_cmp ha hb (nomark _)
theorem pdt_le (ha : PD X W a ta) (hb : PD X W b tb) : PDT X W (.Compare a [.LtE] [b] pos) (dB (dOp oLe ta tb)) := pdt_cmp op_le l_cmp ha hb (nomark _)
theorem pdt_gt (ha : PD X W a ta) (hb : PD X W b tb) : PDT X W (.Compare a [.Gt] [b] pos) (dB (dOp oGt ta tb)) := pdt_cmp op_gt l_cmp ha hb (nomark _)
theorem pdt_ge (ha : PD X W a ta) (hb : PD X W b tb) : PDT X W (.Compare a [.GtE] [b] pos) (dB (dOp oGe ta tb)) := pdt_cmp op_ge l_cmp ha hb (nomark _)
theorem op_eqA (hu : X.A.units + 64 < cLine) : OpR X (compareOp .Eq) (rEqA X.K) := OpR.or op_eq (op_eqD hu)
theorem op_neA (hu : X.A.units + 64 < cLine) : OpR X (compareOp .NotEq) (rNeA X.K) := OpR.or op_ne (op_neD hu)
theorem pd_eq (hu : X.A.units + 64 < cLine) (ha : PD X W a ta) (hb : PD X W b tb) : PD X W (.Compare a [.Eq] [b] pos) (dOp oEq ta tb) := pd_cmp (op_eqA hu) l_eq ha hb (nomark _)
theorem pd_ne (hu : X.A.units + 64 < cLine) (ha : PD X W a ta) (hb : PD X W b tb) : PD X W (.Compare a [.NotEq] [b] pos) (dOp oNe ta tb) := pd_cmp (op_neA hu) l_ne ha hb (nomark _)
theorem pdt_eq (hu : X.A.units + 64 < cLine) (ha : PD X W a ta) (hb : PD X W b tb) : PDT X W (.Compare a [.Eq] [b] pos) (dB (dOp oEq ta tb)) := pdt_cmp (op_eqA hu) l_eq ha hb (nomark _)
theorem pdt_ne (hu : X.A.units + 64 < cLine) (ha : PD X W a ta) (hb : PD X W b tb) : PDT X W (.Compare a [.NotEq] [b] pos) (dB (dOp oNe ta tb)) := pdt_cmp (op_neA hu) l_ne ha hb (nomark _)
theorem op_inA : OpR X (compareOp .In) (rInA X.K) := OpR.or op_in_seq op_in_sign
theorem op_notInA : OpR X (compareOp .NotIn) (rNotInA X.K) := OpR.or op_notIn_seq op_notIn_sign
theorem l_in : LOp K (rInA K) oIn := l_inG (fun _ _ _ _ h => .inl h) fun _ _ _ _ h => .inr h
theorem l_notIn : LOp K (rNotInA K) oNotIn := l_inG (fun _ _ _ _ h => .inl h) fun _ _ _ _ h => .inr h
theorem pd_in (ha : PD X W a ta) (hb : PD X W b tb) (hm : behindInMarks .In b = false := by rfl) : PD X W (.Compare a [.In] [b] pos) (dOp oIn ta tb) := pd_cmp op_inA l_in ha hb hm
theorem pd_notIn (ha : PD X W a ta) (hb : PD X W b tb) (hm : behindInMarks .NotIn b = false := by rfl) : PD X W (.Compare a [.NotIn] [b] pos) (dOp oNotIn ta tb) := pd_cmp op_notInA l_notIn ha hb hm
theorem pdt_in (ha : PD X W a ta) (hb : PD X W b tb) (hm : behindInMarks .In b = false := by rfl) : PDT X W (.Compare a [.In] [b] pos) (dB (dOp oIn ta tb)) := pdt_cmp op_inA l_in ha hb hm
theorem pdt_notIn (ha : PD X W a ta) (hb : PD X W b tb) (hm : behindInMarks .NotIn b = false := by rfl) : PDT X W (.Compare a [.NotIn] [b] pos) (dB (dOp oNotIn ta tb)) := pdt_cmp op_notInA l_notIn ha hb hm
end

/-! ### and, or, not, if -/
def dAnd (t u : DT) : DT := fun δ M Q X => t δ M (fun b M1 => cond b (u δ M1 Q X) (Q false M1)) X
def dOr (t u : DT) : DT := fun δ M Q X => t δ M (fun b M1 => cond b (Q true M1) (u δ M1 Q X)) X
def dNot (t : DT) : DT := fun δ M Q X => t δ M (fun b M1 => Q (!b) M1) X
def dAndV (t u : DE) : DE := fun δ M Q X => t δ M (fun d M1 => asB d M1 fun b M1 => cond b (u δ M1 Q X) (Q (.bl false) M1)) X
def dOrV (t u : DE) : DE := fun δ M Q X => t δ M (fun d M1 => asB d M1 fun b M1 => cond b (Q (.bl true) M1) (u δ M1 Q X)) X
def dNotV (t : DE) : DE := fun δ M Q X => t δ M (fun d M1 => asB d M1 fun b M1 => Q (.bl (!b)) M1) X
def dIf (c : DT) (t u : DE) : DE := fun δ M Q X => c δ M (fun b M1 => cond b (t δ M1 Q X) (u δ M1 Q X)) X
section
variable {X : Cx} {W : WX} {a b c e : Expr} {ta tb tc te : DE} {t u tt : DT} {pos : Pos} {K : PySem.W.Frag} {rest : List Expr}
theorem pdw_and1 (ha : PDT X W a t) : PDW X W (.BoolOp .And [a] pos) t := pw_and1 ha
theorem pdw_or1 (ha : PDT X W a t) : PDW X W (.BoolOp .Or [a] pos) t := pw_or1 ha
theorem pdw_and (ha : PDT X W a t) (hb : PDW X W (.BoolOp .And (b :: rest) pos) u) : PDW X W (.BoolOp .And (a :: b :: rest) pos) (dAnd t u) :=
  PWw (pw_and ha hb) fun σ H Q ⟨G, M, δ, Q', X', ok, sl, h, hq, hx⟩ => ⟨G, M, δ, _, X', ok, sl, h, fun d M1 H1 G1 h1 ok1 e1 => by
    cases d with
    | true => rw [if_pos rfl]; exact ⟨G1, M1, δ, _, X', ok1, sl.mono e1, h1, fun d2 M2 H2 G2 h2 ok2 e2 => hq d2 M2 H2 G2 h2 ok2 (e1.trans e2), hx.mono e1⟩
    | false => rw [if_neg Bool.false_ne_true]; exact hq _ _ _ _ h1 ok1 e1, hx⟩
theorem pdw_or (ha : PDT X W a t) (hb : PDW X W (.BoolOp .Or (b :: rest) pos) u) : PDW X W (.BoolOp .Or (a :: b :: rest) pos) (dOr t u) :=
  PWw (pw_or ha hb) fun σ H Q ⟨G, M, δ, Q', X', ok, sl, h, hq, hx⟩ => ⟨G, M, δ, _, X', ok, sl, h, fun d M1 H1 G1 h1 ok1 e1 => by
    cases d with
    | false => rw [if_neg Bool.false_ne_true]; exact ⟨G1, M1, δ, _, X', ok1, sl.mono e1, h1, fun d2 M2 H2 G2 h2 ok2 e2 => hq d2 M2 H2 G2 h2 ok2 (e1.trans e2), hx.mono e1⟩
    | true => rw [if_pos rfl]; exact hq _ _ _ _ h1 ok1 e1, hx⟩
theorem pdt_w (h : PDW X W e t) : PDT X W e t := h.pt
theorem pdt_not (ha : PDT X W a t) : PDT X W (.UnaryOp .Not a pos) (dNot t) :=
  PTw (pt_not ha) fun σ H Q ⟨G, M, δ, Q', X', ok, sl, h, hq, hx⟩ => ⟨G, M, δ, _, X', ok, sl, h, fun d M1 H1 G1 h1 ok1 e1 => hq _ _ _ _ h1 ok1 e1, hx⟩
theorem pd_one {op} (h : PD X W a ta) : PD X W (.BoolOp op [a] pos) ta := pe_one h
theorem pd_and (ha : PD X W a ta) (hb : PD X W (.BoolOp .And (b :: rest) pos) tb) : PD X W (.BoolOp .And (a :: b :: rest) pos) (dAndV ta tb) :=
  PEw (pe_and ha hb) fun σ H Q ⟨G, M, δ, Q', X', ok, sl, h, hq, hx⟩ => ⟨G, M, δ, _, X', ok, sl, h, fun d M1 v H1 G1 h1 ok1 e1 r1 => by
    obtain ⟨k, ek, h2⟩ := asB_of h1 r1
    refine ⟨k, ek, ?_⟩
    cases k with
    | true => rw [if_pos rfl]; exact ⟨G1, M1, δ, _, X', ok1, sl.mono e1, h2, fun d2 M2 v2 H2 G2 h2 ok2 e2 r2 => hq d2 M2 v2 H2 G2 h2 ok2 (e1.trans e2) r2, hx.mono e1⟩
    | false => rw [if_neg Bool.false_ne_true]; exact hq _ _ _ _ _ h2 ok1 e1 (.bl _), hx⟩
theorem pd_or (ha : PD X W a ta) (hb : PD X W (.BoolOp .Or (b :: rest) pos) tb) : PD X W (.BoolOp .Or (a :: b :: rest) pos) (dOrV ta tb) :=
  PEw (pe_or ha hb) fun σ H Q ⟨G, M, δ, Q', X', ok, sl, h, hq, hx⟩ => ⟨G, M, δ, _, X', ok, sl, h, fun d M1 v H1 G1 h1 ok1 e1 r1 => by
    obtain ⟨k, ek, h2⟩ := asB_of h1 r1
    refine ⟨k, ek, ?_⟩
    cases k with
    | false => rw [if_neg Bool.false_ne_true]; exact ⟨G1, M1, δ, _, X', ok1, sl.mono e1, h2, fun d2 M2 v2 H2 G2 h2 ok2 e2 r2 => hq d2 M2 v2 H2 G2 h2 ok2 (e1.trans e2) r2, hx.mono e1⟩
    | true => rw [if_pos rfl]; exact hq _ _ _ _ _ h2 ok1 e1 (.bl _), hx⟩
theorem pd_not (ha : PD X W a ta) : PD X W (.UnaryOp .Not a pos) (dNotV ta) :=
  PEw (pe_not ha) fun σ H Q ⟨G, M, δ, Q', X', ok, sl, h, hq, hx⟩ => ⟨G, M, δ, _, X', ok, sl, h, fun d M1 v H1 G1 h1 ok1 e1 r1 => by
    obtain ⟨k, ek, h2⟩ := asB_of h1 r1
    exact ⟨k, ek, hq _ _ _ _ _ h2 ok1 e1 (.bl _)⟩, hx⟩
theorem pd_if (hc : PDT X W c tt) (ha : PD X W a ta) (hb : PD X W b tb) : PD X W (.IfExp c a b pos) (dIf tt ta tb) :=
  PEw (pe_ifExp hc ha hb) fun σ H Q ⟨G, M, δ, Q', X', ok, sl, h, hq, hx⟩ => ⟨G, M, δ, _, X', ok, sl, h, fun d M1 H1 G1 h1 ok1 e1 => by
    cases d with
    | true => rw [if_pos rfl]; exact ⟨G1, M1, δ, _, X', ok1, sl.mono e1, h1, fun d2 M2 v2 H2 G2 h2 ok2 e2 r2 => hq d2 M2 v2 H2 G2 h2 ok2 (e1.trans e2) r2, hx.mono e1⟩
    | false => rw [if_neg Bool.false_ne_true]; exact ⟨G1, M1, δ, _, X', ok1, sl.mono e1, h1, fun d2 M2 v2 H2 G2 h2 ok2 e2 r2 => hq d2 M2 v2 H2 G2 h2 ok2 (e1.trans e2) r2, hx.mono e1⟩, hx⟩
end
end DL

/-! The data layer: displays, subscripts, slices, built-ins, comprehensions -/
namespace DL
open PySem PySem.Spec PyProof.Rows L2

/-! ### arguments, displays -/
def dNil : DA := fun _ M Q _ => Q [] M
def dCons (t : DE) (u : DA) : DA := fun δ M Q X => t δ M (fun d M1 => u δ M1 (fun ds M2 => Q (d :: ds) M2) X) X
def few : Nat → List D → Prop
  | _, [] => True
  | 0, _ :: _ => False
  | n + 1, _ :: r => few n r
theorem few_le : ∀ {n : Nat} {ds : List D}, few n ds → ds.length ≤ n
  | _, [], _ => Nat.zero_le _
  | 0, _ :: _, h => h.elim
  | n + 1, _ :: r, h => Nat.succ_le_succ (few_le (ds := r) h)
theorem few_line {n : Nat} {ds : List D} (h : few n ds) (hn : n ≤ 1000 := by decide) : ds.length ≤ sizeLine := Nat.le_trans (few_le h) (Nat.le_of_lt (small1000 hn))
def dLst (t : DA) : DE := fun δ M Q X => t δ M (fun ds M1 => few 99 ds ∧ Q (.lst ds) M1) X
def dTup (t : DA) : DE := fun δ M Q X => t δ M (fun ds M1 => few 99 ds ∧ Q (.tup ds) M1) X
/-- a list that may change -/
def dLstM (t : DA) : DE := fun δ M Q X => t δ M (fun ds M1 => few 99 ds ∧ ∀ p, M1 p = none → Q (.obj p) (M1.set p (.lst ds))) X
/-- what an expression made is not changed any more -/
def frz (d : D) (M : Mem) (Q : QD) : Prop := match res M d, d with
  | .lst ds, .obj a => Q (.lst ds) (M.del a)
  | .dic kvs, .obj a => Q (.dic kvs) (M.del a)
  | _, .obj _ => False
  | _, d => Q d M
def dFrz (t : DE) : DE := fun δ M Q X => t δ M (fun d M1 => frz d M1 Q) X
section
variable {X : Cx} {W : WX} {a b c e : Expr} {es : List Expr} {ta tb te : DE} {t : DA} {pos : Pos} {K : PySem.W.Frag}
theorem pda_nil : PDA X W [] dNil := PAw pa_nil fun σ H Q ⟨G, M, δ, Q', X', ok, sl, h, hq, hx⟩ => hq _ M _ H G h ok (Same.refl _) .nil
theorem pda_cons (ha : PD X W e te) (hr : PDA X W es t) (hs : starEach (e :: es) X.env = (false, eval e X.env) :: starEach es X.env := by rfl) : PDA X W (e :: es) (dCons te t) :=
  PAw (pa_cons ha hr hs) fun σ H Q ⟨G, M, δ, Q', X', ok, sl, h, hq, hx⟩ => ⟨G, M, δ, _, X', ok, sl, h, fun d M1 v H1 G1 h1 ok1 e1 r1 => ⟨G1, M1, δ, _, X', ok1, sl.mono e1, h1, fun ds M2 vs H2 G2 h2 ok2 e2 r2 =>
    hq _ M2 _ H2 G2 h2 ok2 (e1.trans e2) (.cons (r1.mono e2) r2), hx.mono e1⟩, hx⟩
theorem pd_tup {x1} (h : PDA X W es t) : PD X W (.Tuple es x1 pos) (dTup t) :=
  PEw (pe_tup h) fun σ H Q ⟨G, M, δ, Q', X', ok, sl, h, hq, hx⟩ => ⟨G, M, δ, _, X', ok, sl, h, fun ds M1 vs H1 G1 h1 ok1 e1 r1 =>
    ⟨by rw [r1.len]; exact few_line h1.1, fun p hp => have gp := ok1.gnone hp; hq _ _ _ _ _ h1.2 (ok1.frozen hp) (e1.trans (same_upd gp)) (.tup upd_same (r1.mono (same_upd gp)) (few_line h1.1))⟩, hx⟩
theorem pd_lst (h : PDA X W es t) : PD X W (.List es pos) (dLst t) :=
  PEw (pe_lst h) fun σ H Q ⟨G, M, δ, Q', X', ok, sl, h, hq, hx⟩ => ⟨G, M, δ, _, X', ok, sl, h, fun ds M1 vs H1 G1 h1 ok1 e1 r1 =>
    ⟨by rw [r1.len]; exact few_line h1.1, fun p hp => have gp := ok1.gnone hp; hq _ _ _ _ _ h1.2 (ok1.frozen hp) (e1.trans (same_upd gp)) (.lst upd_same (r1.mono (same_upd gp)) (few_line h1.1))⟩, hx⟩
theorem pd_lstM (h : PDA X W es t) : PD X W (.List es pos) (dLstM t) :=
  PEw (pe_lst h) fun σ H Q ⟨G, M, δ, Q', X', ok, sl, h, hq, hx⟩ => ⟨G, M, δ, _, X', ok, sl, h, fun ds M1 vs H1 G1 h1 ok1 e1 r1 =>
    ⟨by rw [r1.len]; exact few_line h1.1, fun p hp => hq _ _ _ _ _ (h1.2 p (ok1.mnone hp)) (ok1.write (ok1.gnone hp) ⟨vs, upd_same, r1, few_line h1.1⟩) e1 (.obj p)⟩, hx⟩
theorem frz_of {G H : Hp} {M : Mem} {d : D} {v : V} {Q : QD} (ok : Ok K H G M) (r : Rep K G v d) (h : frz d M Q) : ∃ d' M' G', Q d' M' ∧ Ok K H G' M' ∧ Same G G' ∧ Rep K G' v d' := by
  unfold frz at h
  split at h
  · rename_i ds a e
    have m := Rep.obj_lst ok e
    obtain ⟨g, vs, h1, q, z⟩ := ok.mem _ _ m
    cases r
    exact ⟨_, _, _, h, ok.freeze m h1, same_upd g, .lst upd_same (q.mono (same_upd g)) z⟩
  · rename_i ds a e
    have m := Rep.obj_dic ok e
    obtain ⟨g, kv, h1, k, q⟩ := ok.mem _ _ m
    cases r
    exact ⟨_, _, _, h, ok.freeze m h1, same_upd g, .dic upd_same k (q.mono (same_upd g))⟩
  · exact h.elim
  · exact ⟨_, _, _, h, ok, Same.refl _, r⟩
theorem pd_frz (h : PD X W e te) : PD X W e (dFrz te) :=
  PEw h fun σ H Q ⟨G, M, δ, Q', X', ok, sl, h, hq, hx⟩ => ⟨G, M, δ, _, X', ok, sl, h, fun d M1 v H1 G1 h1 ok1 e1 r1 => by
    obtain ⟨d', M', G', h2, ok2, e2, r2⟩ := frz_of ok1 r1 h1
    exact hq _ _ _ _ _ h2 ok2 (e1.trans e2) r2, hx⟩
end

/-! ### a dict written -/
def dPairs : List (Str × DE) → DS → Mem → (List (Str × D) → Mem → Prop) → XD → Prop
  | [], _, M, Q, _ => Q [] M
  | (k, t) :: r, δ, M, Q, X => t δ M (fun d M1 => dPairs r δ M1 (fun ps M2 => Q ((k, d) :: ps) M2) X) X
/-- a dict that may change -/
def dDisp (ts : List (Str × DE)) : DE := fun δ M Q X => ∀ p, M p = none → dPairs ts δ (M.set p (.dic [])) (fun kvs M1 => M1 p = some (.dic []) ∧ few 15 (kvs.map (·.2)) ∧ (kvs.map (·.1)).Nodup ∧ Q (.obj p) (M1.set p (.dic kvs))) X
def dDic0 : DE := fun _ M Q _ => Q (.dic []) M
structure PDPs (X : Cx) (W : WX) (pos : Pos) (keys : List (Option Expr)) (values : List Expr) (ts : List (Str × DE)) : Prop where
  run : PPs X pos keys values (ts.map fun p => (tC (.str p.1), up X.K W p.2))
theorem merge_nodup : ∀ {more kvs : List (Key × V)}, ((kvs ++ more).map (·.1)).Nodup → mergeK kvs more = kvs ++ more
  | [], kvs, _ => by rw [List.append_nil]; rfl
  | kv :: r, kvs, h => by
    have hn : valV kvs kv.1 = none := by
      cases e : valV kvs kv.1 with
      | none => rfl
      | some v =>
        unfold valV at e
        cases q : kvs.find? (fun x => decide (x.1 = kv.1)) with
        | none => rw [q] at e; cases e
        | some x =>
          have h1 := List.mem_of_find?_eq_some q
          have h2 := List.find?_some q
          have h2 : x.1 = kv.1 := of_decide_eq_true h2
          rw [List.map_append, List.map_cons] at h
          have := (List.nodup_append.mp h).2.2 x.1 (List.mem_map_of_mem h1) kv.1 List.mem_cons_self
          exact absurd h2 this
    unfold mergeK
    rw [List.foldl_cons, putK_new _ hn]
    have h' : (((kvs ++ [kv]) ++ r).map (·.1)).Nodup := by rw [List.append_assoc]; exact h
    have ih := merge_nodup (more := r) (kvs := kvs ++ [kv]) h'
    unfold mergeK at ih
    rw [show (kv.1, kv.2) = kv from rfl, ih, List.append_assoc]
    rfl
section
variable {X : Cx} {W : WX} {e : Expr} {te : DE} {pos : Pos} {K : PySem.W.Frag} {ks : List (Option Expr)} {vs : List Expr} {ts : List (Str × DE)}
theorem pdp_nil : PDPs X W pos [] [] [] := ⟨pps_nil⟩
theorem pdp_cons {k : Str} {j : Nat} {kp : Pos} (hv : PD X W e te) (hr : PDPs X W pos ks vs ts) : PDPs X W pos (some (.Constant (.str k) j kp) :: ks) (e :: vs) ((k, te) :: ts) := ⟨pps_cons pe_str hv hr.run⟩
theorem up_pairs : ∀ {ts : List (Str × DE)} {σ : L2.St} {H G : Hp} {M : Mem} {δ : DS} {Q : List (V × V) → Hp → Prop} {Q' : List (Str × D) → Mem → Prop} {X' : XD}, Ok K H G M → Slots K G σ δ → dPairs ts δ M Q' X' → WOk K W G X' →
    (∀ kvs M' ps H' G', Q' kvs M' → Ok K H' G' M' → Same G G' → ps.map (·.1) = kvs.map (fun p => V.str p.1) → RepL K G' (ps.map (·.2)) (kvs.map (·.2)) → Q ps H') → tPairs (ts.map fun p => (tC (.str p.1), up K W p.2)) σ H Q
  | [], σ, H, G, M, δ, Q, Q', X', ok, sl, h, hx, hq => hq [] M [] H G h ok (Same.refl _) rfl .nil
  | (k, t) :: r, σ, H, G, M, δ, Q, Q', X', ok, sl, h, hx, hq =>
    ⟨G, M, δ, _, X', ok, sl, h, fun d M1 v H1 G1 h1 ok1 e1 r1 => up_pairs (ts := r) ok1 (sl.mono e1) h1 (hx.mono e1) fun kvs M2 ps H2 G2 h2 ok2 e2 k2 r2 => hq _ M2 _ H2 G2 h2 ok2 (e1.trans e2) (by rw [List.map_cons, List.map_cons, k2]) (.cons (r1.mono e2) r2), hx⟩
theorem key_pairs : ∀ {ps : List (V × V)} {kvs : List (Str × D)}, ps.map (·.1) = kvs.map (fun p => V.str p.1) → ∃ kk : List (Key × V), ps = kk.map (fun kv => (kV kv.1, kv.2)) ∧ kk.map (·.1) = kvs.map (fun p => (Sum.inr p.1 : Key)) ∧ kk.map (·.2) = ps.map (·.2)
  | [], [], _ => ⟨[], rfl, rfl, rfl⟩
  | [], _ :: _, h => by cases h
  | _ :: _, [], h => by cases h
  | (a, b) :: r, (k, d) :: s, h => by
    simp only [List.map_cons, List.cons.injEq] at h
    obtain ⟨h1, h2⟩ := h
    subst h1
    obtain ⟨kk, e1, e2, e3⟩ := key_pairs h2
    exact ⟨(Sum.inr k, b) :: kk, by rw [List.map_cons, e1]; rfl, by rw [List.map_cons, e2]; rfl, by rw [List.map_cons, e3]; rfl⟩
theorem pd_disp (h : PDPs X W pos ks vs ts) (hall : ks.all (·.isSome) = true := by rfl) (hl : ks.length = vs.length := by rfl) (h0 : ks ≠ [] := by exact fun z => nomatch z) (h15 : ks.length ≤ 15 := by decide) : PD X W (.Dict ks vs pos) (dDisp ts) :=
  PEw (pe_disp h.run hall hl h0 h15) fun σ H Q ⟨G, M, δ, Q', X', ok, sl, h, hq, hx⟩ p hp => by
    have gp := ok.gnone hp
    refine up_pairs (ok.write (o := .dK []) (m := .dic []) gp ⟨[], upd_same, rfl, .nil⟩) sl (h p (ok.mnone hp)) hx fun kvs M' ps H' G' h1 ok1 e1 k1 r1 => ?_
    obtain ⟨m, f, nd, h1⟩ := h1
    obtain ⟨g1, kv0, e2, e3, _⟩ := ok1.mem _ _ m
    have z : kv0 = [] := by cases kv0 with
      | nil => rfl
      | cons _ _ => cases e3
    subst z
    obtain ⟨kk, f1, f2, f3⟩ := key_pairs k1
    have nd' : ((([] : List (Key × V)) ++ kk).map (fun kv : Key × V => kv.1)).Nodup := by
      rw [List.nil_append, f2]
      rw [show kvs.map (fun p : Str × D => (Sum.inr p.1 : Key)) = (kvs.map (fun p : Str × D => p.1)).map (fun x : Str => (Sum.inr x : Key)) by rw [List.map_map]; rfl]
      exact List.Pairwise.map _ (fun (a b : Str) (hab : a ≠ b) (e : (Sum.inr a : Key) = Sum.inr b) => hab (Sum.inr.inj e)) nd
    have me := merge_nodup (kvs := []) nd'
    show H' p = some (.dK []) ∧ ∃ kvs : List (Key × V), ps = kvs.map (fun kv => (kV kv.1, kv.2)) ∧ kvs.length ≤ 15 ∧ Q (.ref p) (upd H' p (.dK (mergeK [] kvs)))
    refine ⟨e2, kk, f1, ?_, ?_⟩
    · have := few_le f
      rw [List.length_map] at this
      have l2 := congrArg List.length f2
      rw [List.length_map, List.length_map] at l2
      omega
    · rw [me, List.nil_append]
      exact hq _ _ _ _ _ h1 (ok1.write (m := .dic kvs) g1 ⟨kk, upd_same, f2, by rw [f3]; exact r1⟩) e1 (.obj p)
theorem pd_dic0 : PD X W (.Dict [] [] pos) dDic0 :=
  PEw pe_dnewK fun σ H Q ⟨G, M, δ, Q', X', ok, sl, h, hq, hx⟩ p hp => hq _ _ _ _ _ h (ok.frozen hp) (same_upd (ok.gnone hp)) (.dic upd_same rfl .nil)
end

/-! ### subscripts -/
def nth {α : Type} : List α → Int → Option α
  | xs, .ofNat n => xs[n]?
  | xs, .negSucc n => if n + 1 ≤ xs.length then xs[xs.length - (n + 1)]? else none
theorem nth_at {α : Type} {xs : List α} {i : Int} {v : α} (h : nth xs i = some v) : atI xs i = some v := by
  match i, h with
  | .ofNat n, h => exact atI_nat h
  | .negSucc n, h =>
    have h : (if n + 1 ≤ xs.length then xs[xs.length - (n + 1)]? else none) = some v := h
    by_cases hl : n + 1 ≤ xs.length
    · rw [if_pos hl] at h
      have e : (Int.negSucc n) + (xs.length : Int) = ((xs.length - (n + 1) : Nat) : Int) := by omega
      unfold atI ixN
      rw [if_neg (by omega), if_pos (by omega), e]
      exact h
    · rw [if_neg hl] at h; cases h
theorem nth_map {α β : Type} {g : α → β} {xs : List α} {i : Int} {v : α} (h : nth xs i = some v) : nth (xs.map g) i = some (g v) := by
  match i, h with
  | .ofNat n, h =>
    show (xs.map g)[n]? = _
    rw [List.getElem?_map, show xs[n]? = some v from h]; rfl
  | .negSucc n, h =>
    have h : (if n + 1 ≤ xs.length then xs[xs.length - (n + 1)]? else none) = some v := h
    show (if n + 1 ≤ (xs.map g).length then (xs.map g)[(xs.map g).length - (n + 1)]? else none) = _
    rw [List.length_map]
    by_cases hl : n + 1 ≤ xs.length
    · rw [if_pos hl] at h ⊢
      rw [List.getElem?_map, h]; rfl
    · rw [if_neg hl] at h; cases h
theorem RepL.nth {K : PySem.W.Frag} {G : Hp} {vs : List V} {ds : List D} {i : Int} {d : D} (q : RepL K G vs ds) (h : DL.nth ds i = some d) : ∃ v, DL.nth vs i = some v ∧ Rep K G v d := by
  match i, h with
  | .ofNat n, h => exact q.at h
  | .negSucc n, h =>
    have h : (if n + 1 ≤ ds.length then ds[ds.length - (n + 1)]? else none) = some d := h
    have hl := q.len
    show ∃ v, (if n + 1 ≤ vs.length then vs[vs.length - (n + 1)]? else none) = some v ∧ _
    rw [hl]
    by_cases hn : n + 1 ≤ ds.length
    · rw [if_pos hn] at h ⊢
      exact q.at h
    · rw [if_neg hn] at h; cases h
theorem nth_nat {α : Type} (xs : List α) (n : Nat) : nth xs (n : Int) = xs[n]? := rfl
theorem nth_toNat {α : Type} (xs : List α) {i : Int} (h : 0 ≤ i) : nth xs i = xs[i.toNat]? := by
  obtain ⟨n, rfl⟩ := Int.eq_ofNat_of_zero_le h
  rfl
def look : List (Str × D) → Str → Option D
  | [], _ => none
  | (k, d) :: r, x => if k = x then some d else look r x
theorem look_val {K : PySem.W.Frag} {G : Hp} {x : Str} {d : D} : ∀ {ds : List (Str × D)} {kv : List (Key × V)}, kv.map (·.1) = ds.map (fun p => (Sum.inr p.1 : Key)) → RepL K G (kv.map (·.2)) (ds.map (·.2)) → look ds x = some d → ∃ v, valV kv (Sum.inr x) = some v ∧ Rep K G v d
  | [], _, _, _, h => by cases h
  | (k, d') :: r, [], h, _, _ => by cases h
  | (k, d') :: r, (k', v') :: r', h1, h2, h3 => by
    simp only [List.map_cons, List.cons.injEq] at h1
    cases h2 with
    | cons q t =>
      unfold look at h3
      by_cases e : k = x
      · rw [if_pos e] at h3; cases h3
        exact ⟨v', valV_pos (by rw [h1.1, e]), q⟩
      · rw [if_neg e] at h3
        obtain ⟨v, e1, e2⟩ := look_val h1.2 t h3
        exact ⟨v, by rw [valV_neg (by rw [h1.1]; exact fun z => e (Sum.inr.inj z))]; exact e1, e2⟩
def oIx (x y : D) (M : Mem) (Q : QD) : Prop := match res M x, y with
  | .lst ds, .int i => el (nth ds i) fun d => Q d M
  | .tup ds, .int i => el (nth ds i) fun d => Q d M
  | .scr ns, .int i => el (nth ns i) fun n => Q (.int n) M
  | .str z, .int i => el (nth z.cps.toList i) fun c => Q (.str ⟨#[c]⟩) M
  | .dic kvs, .str k => el (look kvs k) fun d => Q d M
  | _, _ => False
section
variable {X : Cx} {W : WX} {a b e : Expr} {ta tb te : DE} {pos : Pos} {K : PySem.W.Frag}
theorem strOk_iff {z : Str} : strOk z = true ↔ (∀ c ∈ z.cps.toList, c < 0x110000) ∧ z.length ≤ sizeLine := by
  have e : PyData.strOk z = true ↔ ∀ c ∈ z.cps.toList, c < 0x110000 := by
    unfold PyData.strOk
    rw [← Array.all_toList, List.all_eq_true]
    exact ⟨fun h c hc => of_decide_eq_true (h c hc), fun h c hc => decide_eq_true (h c hc)⟩
  exact ⟨fun h => ⟨e.mp (strOk_snd h), strOk_len h⟩, fun h => strOk_mk (e.mpr h.1) h.2⟩
theorem strOk_one {z : Str} {c : Nat} (h : strOk z = true) (m : c ∈ z.cps.toList) : strOk ⟨#[c]⟩ = true := by
  refine strOk_iff.mpr ⟨fun c' hc => ?_, ?_⟩
  · have : c' = c := by simpa using hc
    subst this
    exact (strOk_iff.mp h).1 c' m
  · show 1 ≤ sizeLine
    rw [sizeLine_eq]; decide
def rIxD : R2 := fun x y H Q => ∃ a v, x = .ref a ∧ DGet H a y (some v) ∧ Q v H
theorem ix_dict (hu : X.A.units + 1 < cLine) : IxR X rIxD := by
  intro value slice pins s σ H x y v u Q I rx ry h hs
  obtain ⟨a, z, rfl, g, q⟩ := h
  cases rx
  exact tail_any (dict_typeIs I g) PySem.F.slot_dict_getitem.lookup (d_getItem hu I g ry fun w' s3 I3 rw' => ⟨z, H, I3, rw', q⟩) hs
def rIxA (K : PySem.W.Frag) : R2 := fun x y H Q => rIx K x y H Q ∨ rIxD x y H Q
theorem l_ix : LOp K (rIxA K) oIx := by
  intro x y H G M dx dy Q Q' ok rx ry h hq
  unfold oIx at h
  split at h
  · rename_i ds i e
    obtain ⟨d, e1, h⟩ := el_of h
    obtain ⟨a, vs, f, h1, q, z⟩ := rx.lstOf ok e
    cases ry
    obtain ⟨v, e2, r⟩ := q.nth e1
    exact .inl (.inl ⟨a, vs, i, v, f, rfl, SqL.of h1, nth_at e2, hq _ _ _ _ _ h ok (Same.refl _) r⟩)
  · rename_i ds i e
    obtain ⟨d, e1, h⟩ := el_of h
    obtain ⟨a, vs, f, h1, q, z⟩ := rx.tupOf ok e
    cases ry
    obtain ⟨v, e2, r⟩ := q.nth e1
    exact .inl (.inr (.inl ⟨a, vs, i, v, f, rfl, SqT.of h1, nth_at e2, hq _ _ _ _ _ h ok (Same.refl _) r⟩))
  · rename_i ns i e
    obtain ⟨n, e1, h⟩ := el_of h
    obtain ⟨a, f, h1⟩ := rx.scrOf ok e
    cases ry
    exact .inl (.inl ⟨a, _, i, .int n, f, rfl, h1, nth_at (nth_map e1), hq _ _ _ _ _ h ok (Same.refl _) (.int _)⟩)
  · rename_i z i e
    obtain ⟨c, e1, h⟩ := el_of h
    obtain ⟨f, k⟩ := rx.strOf e
    have hz := strOk_len k
    cases ry
    obtain ⟨j, f1, f2, _⟩ := atI_get (nth_at e1)
    exact .inl (.inr (.inr ⟨z, i, c, f, rfl, hz, nth_at e1, hq _ _ _ _ _ h ok (Same.refl _) (.str _ (strOk_one k (List.mem_of_getElem? f2)))⟩))
  · rename_i kvs k e
    obtain ⟨d, e1, h⟩ := el_of h
    obtain ⟨a, kv, f, h1, k1, q⟩ := rx.dicOf ok e
    cases ry
    obtain ⟨v, e2, r⟩ := look_val k1 q e1
    exact .inr ⟨a, v, f, .inl ⟨kv, .inr k, .inl h1, rfl, e2.symm⟩, hq _ _ _ _ _ h ok (Same.refl _) r⟩
  · exact h.elim
theorem pd_ix (hu : X.A.units + 1 < cLine) (ha : PD X W a ta) (hb : PD X W b tb) (hs : PlainIx b := by exact fun _ _ => rfl) : PD X W (.Subscript a b pos) (dOp oIx ta tb) :=
  PEw (pe_ix (IxR.or ix_seq (ix_dict hu)) ha hb hs) fun _ _ _ h => up_op l_ix h
end

/-! ### slices -/
def dNoPart : DO := fun _ M Q _ => Q none M
def dPart (t : DE) : DO := fun δ M Q X => t δ M (fun d M1 => match d with | .int i => Q (some i) M1 | _ => False) X
def dcut {α : Type} (xs : List α) (lo hi : Option Int) : List α := (xs.drop (HT.sIx xs.length 0 lo)).take (HT.sIx xs.length xs.length hi - HT.sIx xs.length 0 lo)
def oSl (x : D) (lo hi : Option Int) (M : Mem) (Q : QD) : Prop := match res M x with
  | .lst ds => Q (.lst (dcut ds lo hi)) M
  | .tup ds => Q (.tup (dcut ds lo hi)) M
  | .str z => Q (.str (cutS z lo hi)) M
  | _ => False
def dSl (t : DE) (tl th : DO) : DE := fun δ M Q X => t δ M (fun x M1 => tl δ M1 (fun lo M2 => th δ M2 (fun hi M3 => oSl x lo hi M3 Q) X) X) X
section
variable {X : Cx} {W : WX} {e : Expr} {te : DE} {tl th : DO} {pos p2 : Pos} {K : PySem.W.Frag} {lo hi : Option Expr}
theorem pdo_none : PDO X W none dNoPart := ⟨fun pins s σ H Q I ⟨G, M, δ, Q', X', ok, sl, h, hq, hx⟩ => (po_none (X := X)).run pins s σ H Q I (hq none M H G h ok (Same.refl _))⟩
theorem pdo_some (h : PD X W e te) : PDO X W (some e) (dPart te) := ⟨fun pins s σ H Q I ⟨G, M, δ, Q', X', ok, sl, h', hq, hx⟩ => (po_some h).run pins s σ H Q I ⟨G, M, δ, _, X', ok, sl, h', fun d M1 v H1 G1 h1 ok1 e1 r1 => by
    cases r1 with
    | int i => exact ⟨_, rfl, hq _ _ _ _ h1 ok1 e1⟩
    | _ => exact h1.elim, hx⟩⟩
theorem strOk_cut {z : Str} {lo hi : Option Int} (h : strOk z = true) : strOk (cutS z lo hi) = true := by
  rw [strOk_iff] at h ⊢
  refine ⟨fun c hc => h.1 c (List.mem_of_mem_drop (List.mem_of_mem_take (by simpa [cutS] using hc))), Nat.le_trans (cutS_length z lo hi) h.2⟩
theorem RepL.cut {G : Hp} {vs : List V} {ds : List D} (r : RepL K G vs ds) (lo hi : Option Int) : RepL K G (cutV vs lo hi) (dcut ds lo hi) := by
  unfold cutV dcut
  rw [r.len]
  exact (r.drop _).take _
theorem dcut_len {α : Type} (xs : List α) (lo hi : Option Int) : (dcut xs lo hi).length ≤ xs.length := by
  unfold dcut
  rw [List.length_take, List.length_drop]
  omega
def rSlAll (K : PySem.W.Frag) : V → Option Int → Option Int → Hp → VK → Prop := fun x lo hi H Q => rSlL K x lo hi H Q ∨ (rSlA K x lo hi H Q ∨ rSlS x lo hi H Q)
theorem sl_all : SlR X (rSlAll X.K) := SlR.or sl_list (SlR.or sl_tupA sl_str)
theorem pd_slice (he : PD X W e te) (hl : PDO X W lo tl) (hh : PDO X W hi th) : PD X W (.Subscript e (.Slice lo hi none p2) pos) (dSl te tl th) :=
  PEw (pe_slice sl_all he hl hh) fun σ H Q ⟨G, M, δ, Q', X', ok, sl, h, hq, hx⟩ => ⟨G, M, δ, _, X', ok, sl, h, fun d M1 v H1 G1 h1 ok1 e1 r1 =>
    ⟨G1, M1, δ, _, X', ok1, sl.mono e1, h1, fun lo M2 H2 G2 h2 ok2 e2 => ⟨G2, M2, δ, _, X', ok2, (sl.mono e1).mono e2, h2, fun hi M3 H3 G3 h3 ok3 e3 => by
      have r3 := (r1.mono e2).mono e3
      unfold oSl at h3
      have ex := e1.trans (e2.trans e3)
      split at h3
      · rename_i ds e
        obtain ⟨a, vs, f, hH, q, z⟩ := r3.lstOf ok3 e
        refine .inl ⟨a, vs, f, SqL.of hH, fun p hp => ?_⟩
        have gp := ok3.gnone hp
        exact hq _ _ _ _ _ h3 (ok3.frozen hp) (ex.trans (same_upd gp)) (.lst upd_same ((q.cut lo hi).mono (same_upd gp)) (Nat.le_trans (dcut_len _ _ _) z))
      · rename_i ds e
        obtain ⟨a, vs, f, hH, q, z⟩ := r3.tupOf ok3 e
        refine .inr (.inl ⟨a, vs, f, SqT.of hH, fun hw => ?_, fun hw p hp => ?_⟩)
        · have ed := res_tup e
          subst ed
          subst f
          have hl := q.len
          rw [hl] at hw
          have : dcut ds lo hi = ds := by
            unfold dcut
            rw [hw.1, hw.2, List.drop_zero, Nat.sub_zero, List.take_length]
          rw [this] at h3
          exact hq _ _ _ _ _ h3 ok3 ex r3
        · have gp := ok3.gnone hp
          exact hq _ _ _ _ _ h3 (ok3.frozen hp) (ex.trans (same_upd gp)) (.tup upd_same ((q.cut lo hi).mono (same_upd gp)) (Nat.le_trans (dcut_len _ _ _) z))
      · rename_i z e
        obtain ⟨f, k⟩ := r3.strOf e
        exact .inr (.inr ⟨z, f, strOk_len k, hq _ _ _ _ _ h3 ok3 ex (.str _ (strOk_cut k))⟩)
      · exact h3.elim, hx.mono (e1.trans e2)⟩, hx.mono e1⟩, hx⟩
end
end DL

/-! The data layer: built-in calls, methods, what is walked, comprehensions -/
namespace DL
open PySem PySem.Spec PyProof.Rows L2

def dCall (o : List D → Mem → QD → Prop) (t : DA) : DE := fun δ M Q X => t δ M (fun ds M1 => o ds M1 Q) X
def LCall (K : PySem.W.Frag) (r : List V → Hp → VK → Prop) (o : List D → Mem → QD → Prop) : Prop := ∀ (vs : List V) (H G : Hp) (M : Mem) (ds : List D) (Q : VK) (Q' : QD), Ok K H G M → RepL K G vs ds → o ds M Q' →
  (∀ d M' v H' G', Q' d M' → Ok K H' G' M' → Same G G' → Rep K G' v d → Q v H') → r vs H Q
section
variable {X : Cx} {W : WX} {x : Str} {p pos : Pos} {e : Expr} {es : List Expr} {t : DA} {id T : String} {r : List V → Hp → VK → Prop} {o : List D → Mem → QD → Prop} {K : PySem.W.Frag}
theorem up_call (l : LCall K r o) {σ : L2.St} {H : Hp} {Q : VK} (h : up K W (dCall o t) σ H Q) : tCB r (upA K W t) σ H Q := by
  obtain ⟨G, M, δ, Q', X', ok, sl, h, hq, hx⟩ := h
  exact ⟨G, M, δ, _, X', ok, sl, h, fun ds M1 vs H1 G1 h1 ok1 e1 r1 => l vs H1 G1 M1 ds Q Q' ok1 r1 h1 fun d3 M3 v3 H3 G3 h3 ok3 e3 r3 => hq d3 M3 v3 H3 G3 h3 ok3 (e1.trans e3) r3, hx⟩
theorem pd_callB (hc : CallR X (.builtin id) r) (l : LCall X.K r o) (hg : Gl X x) (hm : X.mg x = none) (hv : bootBuiltins x = some (.builtin id)) (ha : PDA X W (e :: es) t) (hn : x ≠ "__name__" := by decide) (hdb : (x == ("__debug__" : Str)) = false := by decide)
    (he : starEach (e :: es) X.env = (false, eval e X.env) :: starEach es X.env := by rfl) (hpl : (backTo pos (starEach es X.env)).any (·.1) = false := by rfl) : PD X W (.Call (.Name x p) (e :: es) [] pos) (dCall o t) :=
  PEw (pe_callB hc hg hm hv ha hn hdb he hpl) fun _ _ _ h => up_call l h
theorem pd_callTy (hc : CallR X (.type T) r) (l : LCall X.K r o) (hg : Gl X x) (hm : X.mg x = none) (hv : bootBuiltins x = some (.type T)) (ha : PDA X W (e :: es) t) (hn : x ≠ "__name__" := by decide) (hdb : (x == ("__debug__" : Str)) = false := by decide)
    (he : starEach (e :: es) X.env = (false, eval e X.env) :: starEach es X.env := by rfl) (hpl : (backTo pos (starEach es X.env)).any (·.1) = false := by rfl) : PD X W (.Call (.Name x p) (e :: es) [] pos) (dCall o t) :=
  PEw (pe_callTy hc hg hm hv ha hn hdb he hpl) fun _ _ _ h => up_call l h
theorem pd_bltn {n : String} {pos : Pos} (hg : Gl X x) (hm : X.mg x = none) (hv : bootBuiltins x = some (.type n)) (hn : x ≠ "__name__" := by decide) (hd : (x == ("__debug__" : Str)) = false := by decide) : PD X W (.Name x pos) (dC (.ty n)) :=
  pd_c (pe_bltn (v := .ty n) hg hm hv rfl hn hd) fun _ => .ty n
theorem pd_cls {C : Addr} {pos : Pos} (hg : Gl X x) (hm : X.mg x = some (.ref C)) (hd : (x == ("__debug__" : Str)) = false := by decide) : PD X W (.Name x pos) (dC (.obj C)) := pd_glob (v := .ref C) hg hm rfl (fun _ => .obj C) hd
end

def on1 (F : D → Mem → QD → Prop) (ds : List D) (M : Mem) (Q : QD) : Prop := match ds with
  | [d] => F (res M d) M Q
  | _ => False
def on2 (F : D → D → Mem → QD → Prop) (ds : List D) (M : Mem) (Q : QD) : Prop := match ds with
  | [d, e] => F (res M d) (res M e) M Q
  | _ => False
def lenD (d : D) (M : Mem) (Q : QD) : Prop := match d with
  | .lst ds => Q (.int ds.length) M
  | .tup ds => Q (.int ds.length) M
  | .scr ns => Q (.int ns.length) M
  | .str z => Q (.int z.length) M
  | _ => False
def intD (d : D) (M : Mem) (Q : QD) : Prop := match d with
  | .int i => Q (.int i) M
  | .bl k => Q (.int (cond k 1 0)) M
  | _ => False
def strD (d : D) (M : Mem) (Q : QD) : Prop := match d with
  | .int i => 0 ≤ i ∧ i < 1000000000 ∧ Q (.str (toString i)) M
  | _ => False
def int2 (g : Int → Int → Int) (d e : D) (M : Mem) (Q : QD) : Prop := match d, e with
  | .int i, .int j => Q (.int (g i j)) M
  | _, _ => False
def sumD (d : D) (M : Mem) (Q : QD) : Prop := ∃ ns : List Int, d = .lst (ns.map .int) ∧ Q (.int ns.sum) M
def maxD (d : D) (M : Mem) (Q : QD) : Prop := ∃ ns : List Int, d = .lst (ns.map .int) ∧ 0 < ns.length ∧ ∀ m, m ∈ ns → (∀ y, y ∈ ns → y ≤ m) → Q (.int m) M
/-- list(x), a list that may change -/
def listM (d : D) (M : Mem) (Q : QD) : Prop := match d with
  | .lst ds => ∀ p, M p = none → Q (.obj p) (M.set p (.lst ds))
  | .tup ds => ∀ p, M p = none → Q (.obj p) (M.set p (.lst ds))
  | _ => False
def listF (d : D) (M : Mem) (Q : QD) : Prop := match d with
  | .lst ds => Q (.lst ds) M
  | .tup ds => Q (.lst ds) M
  | _ => False
def dictM (d : D) (M : Mem) (Q : QD) : Prop := match d with
  | .dic kvs => ∀ p, M p = none → Q (.obj p) (M.set p (.dic kvs))
  | _ => False
/-- isinstance of data -/
def isB (n : String) (d : D) : Option Bool := match d with
  | .non => kitB "NoneType" n
  | .bl _ => kitB "bool" n
  | .int _ => kitB "int" n
  | .str _ => kitB "str" n
  | .lst _ => kitB "list" n
  | .tup _ => kitB "tuple" n
  | .dic _ => kitB "dict" n
  | _ => none
def isiD (d e : D) (M : Mem) (Q : QD) : Prop := match e with
  | .ty n => el (isB n d) fun b => Q (.bl b) M
  | _ => False

section
variable {K : PySem.W.Frag} {X : Cx}
theorem l_on1 {F : D → Mem → QD → Prop} {r : V → Hp → VK → Prop} (h : ∀ (v : V) (H G : Hp) (M : Mem) (d d' : D) (Q : VK) (Q' : QD), Ok K H G M → Rep K G v d → res M d = d' → F d' M Q' →
    (∀ d M' v H' G', Q' d M' → Ok K H' G' M' → Same G G' → Rep K G' v d → Q v H') → r v H Q) : LCall K (fun vs H Q => ∃ v, vs = [v] ∧ r v H Q) (on1 F) := by
  intro vs H G M ds Q Q' ok rl ho hq
  unfold on1 at ho
  split at ho
  · cases rl with
    | cons a b =>
      cases b
      exact ⟨_, rfl, h _ _ _ _ _ _ _ _ ok a rfl ho hq⟩
  · exact ho.elim
theorem l_on2 {F : D → D → Mem → QD → Prop} {r : V → V → Hp → VK → Prop} (h : ∀ (v w : V) (H G : Hp) (M : Mem) (d d' e e' : D) (Q : VK) (Q' : QD), Ok K H G M → Rep K G v d → Rep K G w e → res M d = d' → res M e = e' → F d' e' M Q' →
    (∀ d M' v H' G', Q' d M' → Ok K H' G' M' → Same G G' → Rep K G' v d → Q v H') → r v w H Q) : LCall K (fun vs H Q => ∃ v w, vs = [v, w] ∧ r v w H Q) (on2 F) := by
  intro vs H G M ds Q Q' ok rl ho hq
  unfold on2 at ho
  split at ho
  · cases rl with
    | cons a b =>
      cases b with
      | cons b c =>
        cases c
        exact ⟨_, _, rfl, h _ _ _ _ _ _ _ _ _ _ _ ok a b rfl rfl ho hq⟩
  · exact ho.elim
theorem LCall.imp {r r' : List V → Hp → VK → Prop} {o : List D → Mem → QD → Prop} (l : LCall K r o) (h : ∀ vs H Q, r vs H Q → r' vs H Q) : LCall K r' o := fun vs H G M ds Q Q' ok rl ho hq => h _ _ _ (l vs H G M ds Q Q' ok rl ho hq)
theorem l_len : LCall K (fun xs H Q => ∃ x n, xs = [x] ∧ LenV K x H n ∧ Q (.int n) H) (on1 lenD) := by
  refine LCall.imp (l_on1 (r := fun x H Q => ∃ n, LenV K x H n ∧ Q (.int n) H) fun v H G M d d' Q Q' ok rv e h hq => ?_) fun vs H Q ⟨v, e, n, h⟩ => ⟨v, n, e, h⟩
  unfold lenD at h
  split at h
  · obtain ⟨a, vs, f, h1, q, z⟩ := rv.lstOf ok e
    subst f
    exact ⟨_, .inl ⟨_, SqL.of h1, q.len.symm⟩, hq _ _ _ _ _ h ok (Same.refl _) (.int _)⟩
  · obtain ⟨a, vs, f, h1, q, z⟩ := rv.tupOf ok e
    subst f
    exact ⟨_, .inr ⟨_, SqT.of h1, q.len.symm⟩, hq _ _ _ _ _ h ok (Same.refl _) (.int _)⟩
  · obtain ⟨a, f, h1⟩ := rv.scrOf ok e
    subst f
    exact ⟨_, .inl ⟨_, h1, by rw [List.length_map]⟩, hq _ _ _ _ _ h ok (Same.refl _) (.int _)⟩
  · obtain ⟨f, k⟩ := rv.strOf e
    subst f
    exact ⟨_, ⟨strOk_len k, rfl⟩, hq _ _ _ _ _ h ok (Same.refl _) (.int _)⟩
  · exact h.elim
theorem l_int1 : LCall K (fun xs H Q => (∃ i, xs = [.int i] ∧ Q (.int i) H) ∨ ∃ k, xs = [.bl k] ∧ Q (.int (if k then 1 else 0)) H) (on1 intD) := by
  refine LCall.imp (l_on1 (r := fun x H Q => (∃ i, x = .int i ∧ Q (.int i) H) ∨ ∃ k, x = .bl k ∧ Q (.int (if k then 1 else 0)) H) fun v H G M d d' Q Q' ok rv e h hq => ?_) fun vs H Q ⟨v, e, h⟩ => by
    subst e
    rcases h with ⟨i, e, h⟩ | ⟨i, e, h⟩
    · exact .inl ⟨i, by rw [e], h⟩
    · exact .inr ⟨i, by rw [e], h⟩
  unfold intD at h
  split at h
  · exact .inl ⟨_, rv.intOf e, hq _ _ _ _ _ h ok (Same.refl _) (.int _)⟩
  · rename_i k
    refine .inr ⟨k, rv.blOf e, ?_⟩
    have : (if k = true then (1 : Int) else 0) = cond k 1 0 := by cases k <;> rfl
    rw [this]
    exact hq _ _ _ _ _ h ok (Same.refl _) (.int _)
  · exact h.elim
theorem strOk_num {i : Int} (h0 : 0 ≤ i) (h1 : i < 1000000000) : strOk (toString i : String) = true := by
  obtain ⟨n, rfl⟩ := Int.eq_ofNat_of_zero_le h0
  have e := TL.tl_num n
  have e : (Str.ofString (toString ((n : Nat) : Int))).cps.toList = TL.numL n := e
  have hl := TL.numL_len (n := n) (k := 9) (by decide) (by omega)
  refine strOk_iff.mpr ⟨fun c hc => ?_, ?_⟩
  · rw [e] at hc
    have := TL.numL_digits n c hc
    omega
  · have : (Str.ofString (toString ((n : Nat) : Int))).length = (TL.numL n).length := by rw [← e, Array.length_toList]; rfl
    rw [this, sizeLine_eq]
    omega
theorem log_small {i : Int} (h0 : 0 ≤ i) (h1 : i < 1000000000) : i.natAbs.log2 < 1920 := by
  by_cases hz : i.natAbs = 0
  · rw [hz]; decide
  · refine (Nat.log2_lt hz).mpr (Nat.lt_of_lt_of_le (show i.natAbs < 2 ^ 30 by omega) (Nat.pow_le_pow_right (by decide) (by decide)))
theorem l_str1 : LCall K (fun xs H Q => ∃ i, xs = [.int i] ∧ i.natAbs.log2 < 1920 ∧ Q (.str (toString i)) H) (on1 strD) := by
  refine LCall.imp (l_on1 (r := fun x H Q => ∃ i : Int, x = .int i ∧ i.natAbs.log2 < 1920 ∧ Q (.str (toString i)) H) fun v H G M d d' Q Q' ok rv e h hq => ?_) fun vs H Q ⟨v, e, i, f, h⟩ => ⟨i, by rw [e, f], h⟩
  unfold strD at h
  split at h
  · obtain ⟨h0, h1, h⟩ := h
    exact ⟨_, rv.intOf e, log_small h0 h1, hq _ _ _ _ _ h ok (Same.refl _) (.str _ (strOk_num h0 h1))⟩
  · exact h.elim
theorem l_int2 {g : Int → Int → Int} : LCall K (fun xs H Q => ∃ i j, xs = [.int i, .int j] ∧ Q (.int (g i j)) H) (on2 (int2 g)) := by
  refine LCall.imp (l_on2 (r := fun x y H Q => ∃ i j, x = .int i ∧ y = .int j ∧ Q (.int (g i j)) H) fun v w H G M d d' d2 d2' Q Q' ok rv rw' e e2 h hq => ?_) fun vs H Q ⟨v, w, e, i, j, f, f2, h⟩ => ⟨i, j, by rw [e, f, f2], h⟩
  unfold int2 at h
  split at h
  · exact ⟨_, _, rv.intOf e, rw'.intOf e2, hq _ _ _ _ _ h ok (Same.refl _) (.int _)⟩
  · exact h.elim
theorem reps_ints {G : Hp} : ∀ {ns : List Int} {vs : List V}, RepL K G vs (ns.map D.int) → vs = ns.map V.int
  | [], _, .nil => rfl
  | i :: r, _, .cons (.int _) t => by rw [List.map_cons, ← reps_ints t]
theorem l_sum : LCall K (rSum K) (on1 sumD) := by
  refine LCall.imp (l_on1 (r := fun x H Q => ∃ (a : Addr) (ns : List Int), x = .ref a ∧ SqL K H a (ns.map V.int) ∧ Q (.int ns.sum) H) fun v H G M d d' Q Q' ok rv e h hq => ?_) fun vs H Q ⟨v, e, a, ns, f, h⟩ => ⟨a, ns, by rw [e, f], h⟩
  obtain ⟨ns, f, h⟩ := h
  subst f
  obtain ⟨a, vs, f, h1, q, z⟩ := rv.lstOf ok e
  have := reps_ints q
  subst this
  exact ⟨a, ns, f, SqL.of h1, hq _ _ _ _ _ h ok (Same.refl _) (.int _)⟩
theorem l_max : LCall K (rMax K) (on1 maxD) := by
  refine LCall.imp (l_on1 (r := fun x H Q => ∃ (a : Addr) (ns : List Int), x = .ref a ∧ SqL K H a (ns.map V.int) ∧ 0 < ns.length ∧ ∀ m, m ∈ ns → (∀ y, y ∈ ns → y ≤ m) → Q (.int m) H) fun v H G M d d' Q Q' ok rv e h hq => ?_) fun vs H Q ⟨v, e, a, ns, f, h⟩ => ⟨a, ns, by rw [e, f], h⟩
  obtain ⟨ns, f, hz, h⟩ := h
  subst f
  obtain ⟨a, vs, f, h1, q, z⟩ := rv.lstOf ok e
  have := reps_ints q
  subst this
  exact ⟨a, ns, f, SqL.of h1, hz, fun m h1 h2 => hq _ _ _ _ _ (h m h1 h2) ok (Same.refl _) (.int _)⟩
abbrev rListOf (K : PySem.W.Frag) : List V → Hp → VK → Prop := fun xs H Q => ∃ p ys, xs = [.ref p] ∧ (SqL K H p ys ∨ SqT K H p ys) ∧ ∀ l, H l = none → Q (.ref l) (upd H l (.lst ys))
theorem l_listM : LCall K (rListOf K) (on1 listM) := by
  refine LCall.imp (l_on1 (r := fun x H Q => ∃ p ys, x = .ref p ∧ (SqL K H p ys ∨ SqT K H p ys) ∧ ∀ l, H l = none → Q (.ref l) (upd H l (.lst ys))) fun v H G M d d' Q Q' ok rv e h hq => ?_) fun vs H Q ⟨v, e, a, ns, f, h⟩ => ⟨a, ns, by rw [e, f], h⟩
  unfold listM at h
  split at h
  · obtain ⟨a, vs, f, h1, q, z⟩ := rv.lstOf ok e
    exact ⟨a, vs, f, .inl (SqL.of h1), fun l hl => hq _ _ _ _ _ (h l (ok.mnone hl)) (ok.write (m := .lst _) (ok.gnone hl) ⟨vs, upd_same, q, z⟩) (Same.refl _) (.obj l)⟩
  · obtain ⟨a, vs, f, h1, q, z⟩ := rv.tupOf ok e
    exact ⟨a, vs, f, .inr (SqT.of h1), fun l hl => hq _ _ _ _ _ (h l (ok.mnone hl)) (ok.write (m := .lst _) (ok.gnone hl) ⟨vs, upd_same, q, z⟩) (Same.refl _) (.obj l)⟩
  · exact h.elim
theorem l_listF : LCall K (rListOf K) (on1 listF) := by
  refine LCall.imp (l_on1 (r := fun x H Q => ∃ p ys, x = .ref p ∧ (SqL K H p ys ∨ SqT K H p ys) ∧ ∀ l, H l = none → Q (.ref l) (upd H l (.lst ys))) fun v H G M d d' Q Q' ok rv e h hq => ?_) fun vs H Q ⟨v, e, a, ns, f, h⟩ => ⟨a, ns, by rw [e, f], h⟩
  unfold listF at h
  split at h
  · obtain ⟨a, vs, f, h1, q, z⟩ := rv.lstOf ok e
    exact ⟨a, vs, f, .inl (SqL.of h1), fun l hl => hq _ _ _ _ _ h (ok.frozen hl) (same_upd (ok.gnone hl)) (.lst upd_same (q.mono (same_upd (ok.gnone hl))) z)⟩
  · obtain ⟨a, vs, f, h1, q, z⟩ := rv.tupOf ok e
    exact ⟨a, vs, f, .inr (SqT.of h1), fun l hl => hq _ _ _ _ _ h (ok.frozen hl) (same_upd (ok.gnone hl)) (.lst upd_same (q.mono (same_upd (ok.gnone hl))) z)⟩
  · exact h.elim
abbrev rDictOf : List V → Hp → VK → Prop := fun xs H Q => ∃ (a : Addr) (kvs : List (Key × V)), xs = [.ref a] ∧ Rd H a (.dK kvs) ∧ ∀ p, H p = none → Q (.ref p) (upd H p (.dK kvs))
theorem l_dictM : LCall K rDictOf (on1 dictM) := by
  refine LCall.imp (l_on1 (r := fun x H Q => ∃ (a : Addr) (kvs : List (Key × V)), x = .ref a ∧ Rd H a (.dK kvs) ∧ ∀ p, H p = none → Q (.ref p) (upd H p (.dK kvs))) fun v H G M d d' Q Q' ok rv e h hq => ?_) fun vs H Q ⟨v, e, a, ns, f, h⟩ => ⟨a, ns, by rw [e, f], h⟩
  unfold dictM at h
  split at h
  · obtain ⟨a, kv, f, h1, k, q⟩ := rv.dicOf ok e
    exact ⟨a, kv, f, .inl h1, fun l hl => hq _ _ _ _ _ (h l (ok.mnone hl)) (ok.write (m := .dic _) (ok.gnone hl) ⟨kv, upd_same, k, q⟩) (Same.refl _) (.obj l)⟩
  · exact h.elim
theorem l_isi : LCall K (rIsi K) (on2 isiD) := by
  refine LCall.imp (l_on2 (r := fun x c H Q => ∃ (t u : Value) (b : Bool), ClsV c u ∧ TyX K H x t ∧ PySem.W.kitOne K t u = some b ∧ Q (.bl b) H) fun v w H G M d d' d2 d2' Q Q' ok rv rw' e e2 h hq => ?_) fun vs H Q ⟨v, w, e, t, u, b, h⟩ => ⟨v, w, t, u, b, e, h⟩
  unfold isiD at h
  split at h
  · rename_i n
    obtain ⟨b, eb, h⟩ := el_of h
    have ew : w = .ty n := by
      cases rw' with
      | ty => cases e2; rfl
      | obj a => rcases resO_ne e2 with ⟨_, z⟩ | ⟨_, z⟩ | z <;> cases z
      | _ => cases e2
    subst ew
    have fin : ∀ {ty : String}, TyX K H v (.type ty) → kitB ty n = some b → ∃ (t u : Value) (b : Bool), ClsV (.ty n) u ∧ TyX K H v t ∧ PySem.W.kitOne K t u = some b ∧ Q (.bl b) H := fun {ty} k1 k2 =>
      ⟨_, _, b, .ty n, k1, kit_ty k2, hq _ _ _ _ _ h ok (Same.refl _) (.bl _)⟩
    unfold isB at eb
    split at eb
    · cases rv.nonOf e; exact fin (.base .non) eb
    · cases rv.blOf e; exact fin (.base (.bl _)) eb
    · cases rv.intOf e; exact fin (.base (.int _)) eb
    · obtain ⟨f, _⟩ := rv.strOf e; subst f; exact fin (.base (.str _)) eb
    · obtain ⟨a, vs, f, h1, q, z⟩ := rv.lstOf ok e; subst f; exact fin (.base (.lst h1)) eb
    · obtain ⟨a, vs, f, h1, q, z⟩ := rv.tupOf ok e; subst f; exact fin (.base (.tup h1)) eb
    · obtain ⟨a, kv, f, h1, k, q⟩ := rv.dicOf ok e; subst f; exact fin (.base (.dK h1)) eb
    · cases eb
  · exact h.elim
end

/-! ### methods of built-in types -/
def elL : Option MO → (List D → Prop) → Prop
  | some (.lst ds), F => F ds
  | _, _ => False
theorem elL_of {o : Option MO} {F : List D → Prop} (h : elL o F) : ∃ ds, o = some (.lst ds) ∧ F ds := by
  cases o with
  | none => exact h.elim
  | some m => cases m with
    | lst ds => exact ⟨ds, rfl, h⟩
    | dic _ => exact h.elim
    | ins _ _ => exact h.elim
def dMet0 (o : D → List D → Mem → QD → Prop) (to : DE) : DE := fun δ M Q X => to δ M (fun x M1 => o x [] M1 Q) X
/-- x.m(..), the receiver's kind looked at ahead of the arguments -/
def dMet (ty : D → Mem → Prop) (o : D → List D → Mem → QD → Prop) (to : DE) (t : DA) : DE := fun δ M Q X => to δ M (fun x M1 => ty x M1 ∧ t δ M1 (fun ds M2 => o x ds M2 Q) X) X
def LMet (K : PySem.W.Frag) (r : V → List V → Hp → VK → Prop) (o : D → List D → Mem → QD → Prop) : Prop := ∀ (v : V) (vs : List V) (H G : Hp) (M : Mem) (d : D) (ds : List D) (Q : VK) (Q' : QD), Ok K H G M → Rep K G v d → RepL K G vs ds → o d ds M Q' →
  (∀ d M' v H' G', Q' d M' → Ok K H' G' M' → Same G G' → Rep K G' v d → Q v H') → r v vs H Q
def isLst (d : D) (M : Mem) : Prop := match res M d with
  | .lst _ => True
  | _ => False
def isStr (d : D) (_ : Mem) : Prop := match d with
  | .str _ => True
  | _ => False
def oAppend (x : D) (ds : List D) (M : Mem) (Q : QD) : Prop := match x, ds with
  | .obj a, [d] => elL (M a) fun xs => xs.length < sizeLine ∧ Q .non (M.set a (.lst (xs ++ [d])))
  | _, _ => False
def oInsert (x : D) (ds : List D) (M : Mem) (Q : QD) : Prop := match x, ds with
  | .obj a, [.int i, d] => elL (M a) fun xs => xs.length < sizeLine ∧ 0 ≤ i ∧ i < 2 ^ 63 ∧ Q .non (M.set a (.lst (xs.take i.toNat ++ [d] ++ xs.drop i.toNat)))
  | _, _ => False
def oPop (x : D) (ds : List D) (M : Mem) (Q : QD) : Prop := match x, ds with
  | .obj a, [] => elL (M a) fun xs => el xs[xs.length - 1]? fun d => Q d (M.set a (.lst xs.dropLast))
  | _, _ => False
def oPopAt (x : D) (ds : List D) (M : Mem) (Q : QD) : Prop := match x, ds with
  | .obj a, [.int i] => elL (M a) fun xs => 0 ≤ i ∧ i < 2 ^ 62 ∧ el xs[i.toNat]? fun d => Q d (M.set a (.lst (xs.eraseIdx i.toNat)))
  | _, _ => False
def oIndex (x : D) (ds : List D) (M : Mem) (Q : QD) : Prop := match res M x, ds with
  | .lst xs, [d] => flatD d = true ∧ xs.all flatD = true ∧ ∃ (j : Nat) (z : D), xs[j]? = some z ∧ eqF z d = true ∧ (∀ (m : Nat) (z' : D), m < j → xs[m]? = some z' → eqF z' d = false) ∧ Q (.int (j : Nat)) M
  | _, _ => False
def oSplit (x : D) (ds : List D) (M : Mem) (Q : QD) : Prop := match x, ds with
  | .str a, [.str b] => (b.length == 0) = false ∧ a.length + 2 ≤ sizeLine ∧ (Txt.split a b).length ≤ sizeLine ∧ (∀ z ∈ Txt.split a b, strOk z = true) ∧ Q (.lst ((Txt.split a b).map .str)) M
  | _, _ => False
def oJoin (x : D) (ds : List D) (M : Mem) (Q : QD) : Prop := match x, ds with
  | .str a, [d] => ∃ ys : List Str, (res M d = .lst (ys.map .str) ∨ res M d = .tup (ys.map .str)) ∧ (ys.map (·.length)).sum + ys.length * a.length ≤ 16777216 ∧ strOk (Txt.join a ys) = true ∧ Q (.str (Txt.join a ys)) M
  | _, _ => False
section
variable {K : PySem.W.Frag} {X : Cx} {W : WX} {o e : Expr} {es : List Expr} {to te : DE} {t : DA} {name : Str} {apos cpos : Pos} {T id : String} {r : V → List V → Hp → VK → Prop} {oo : D → List D → Mem → QD → Prop}
theorem isLst_of {H G : Hp} {M : Mem} {v : V} {d : D} (ok : Ok K H G M) (rv : Rep K G v d) (h : isLst d M) : tyV K "list" v H := by
  unfold isLst at h
  split at h
  · rename_i ds e
    obtain ⟨a, vs, f, h1, q, z⟩ := rv.lstOf ok e
    subst f
    exact .inl ⟨rfl, _, SqL.of h1⟩
  · exact h.elim
theorem pd_bmL (pa : PlainAttrs "list") (slot : Slot "list" name id) (hty : typeOf (.builtin id) = pure (.type "method_descriptor")) (hm : MtR X id r) (l : LMet X.K r oo) (ho : PD X W o to) (ha : PDA X W (e :: es) t)
    (hbase : attributeBase o name X.env (eval o X.env) = eval o X.env := by rfl)
    (hfew : ((backTo cpos (starEach (e :: es) X.env)).all (fun x => !x.1) && (backToKw cpos (keywordEach [] X.env)).all (fun x => x.1.isSome)
      && decide ((e :: es).length + ([] : List Keyword).length + (if ([] : List Keyword).isEmpty then 0 else 1) < 30)) = true := by rfl)
    (hline : (apos.endLine == cpos.line) = true := by rfl) (hs : starEach (e :: es) X.env = (false, eval e X.env) :: starEach es X.env := by rfl) (hplain : (backTo cpos (starEach es X.env)).any (·.1) = false := by rfl) :
    PD X W (.Call (.Attribute o name apos) (e :: es) [] cpos) (dMet isLst oo to t) :=
  PEw (pe_bm pa slot hty hm ho ha hbase hfew hline hs hplain) fun σ H Q ⟨G, M, δ, Q', X', ok, sl, h, hq, hx⟩ => ⟨G, M, δ, _, X', ok, sl, h, fun d M1 v H1 G1 h1 ok1 e1 r1 =>
    ⟨isLst_of ok1 r1 h1.1, G1, M1, δ, _, X', ok1, sl.mono e1, h1.2, fun ds M2 vs H2 G2 h2 ok2 e2 r2 => l v vs H2 G2 M2 d ds Q Q' ok2 (r1.mono e2) r2 h2 fun d3 M3 v3 H3 G3 h3 ok3 e3 r3 => hq d3 M3 v3 H3 G3 h3 ok3 (e1.trans (e2.trans e3)) r3, hx.mono e1⟩, hx⟩
def dMet0L (oo : D → List D → Mem → QD → Prop) (to : DE) : DE := fun δ M Q X => to δ M (fun x M1 => isLst x M1 ∧ oo x [] M1 Q) X
theorem pd_bm0L (pa : PlainAttrs "list") (slot : Slot "list" name id) (hty : typeOf (.builtin id) = pure (.type "method_descriptor")) (hm : MtR X id r) (l : LMet X.K r oo) (ho : PD X W o to)
    (hbase : attributeBase o name X.env (eval o X.env) = eval o X.env := by rfl) (hline : (apos.endLine == cpos.line) = true := by rfl) : PD X W (.Call (.Attribute o name apos) [] [] cpos) (dMet0L oo to) :=
  PEw (pe_bm0 pa slot hty hm ho hbase hline) fun σ H Q ⟨G, M, δ, Q', X', ok, sl, h, hq, hx⟩ => ⟨G, M, δ, _, X', ok, sl, h, fun d M1 v H1 G1 h1 ok1 e1 r1 =>
    ⟨isLst_of ok1 r1 h1.1, l v [] H1 G1 M1 d [] Q Q' ok1 r1 .nil h1.2 fun d3 M3 v3 H3 G3 h3 ok3 e3 r3 => hq d3 M3 v3 H3 G3 h3 ok3 (e1.trans e3) r3⟩, hx⟩
theorem pd_m1 (slot : Slot "str" name id) (ty : typeOf (.builtin id) = pure (.type "method_descriptor")) (rule : MtR X id r) (l : LMet X.K r oo) (ho : PD X W o to) (he : PD X W e te)
    (hs : starEach [e] X.env = [(false, eval e X.env)] := by rfl) (hbase : attributeBase o name X.env (eval o X.env) = eval o X.env := by rfl) (hline : (apos.endLine == cpos.line) = true := by rfl) :
    PD X W (.Call (.Attribute o name apos) [e] [] cpos) (dMet isStr oo to (dCons te dNil)) :=
  PEw (pe_m1 slot ty rule ho he hs hbase hline) fun σ H Q ⟨G, M, δ, Q', X', ok, sl, h, hq, hx⟩ => ⟨G, M, δ, _, X', ok, sl, h, fun d M1 v H1 G1 h1 ok1 e1 r1 =>
    ⟨by
      have := h1.1
      unfold isStr at this
      split at this
      · cases r1; exact ⟨_, rfl⟩
      · exact this.elim, G1, M1, δ, _, X', ok1, sl.mono e1, h1.2, fun d2 M2 v2 H2 G2 h2 ok2 e2 r2 => l v [v2] H2 G2 M2 d [d2] Q Q' ok2 (r1.mono e2) (.one r2) h2 fun d3 M3 v3 H3 G3 h3 ok3 e3 r3 => hq d3 M3 v3 H3 G3 h3 ok3 (e1.trans (e2.trans e3)) r3, hx.mono e1⟩, hx⟩
theorem l_append : LMet K rAppend oAppend := by
  intro v vs H G M d ds Q Q' ok rv rl h hq
  unfold oAppend at h
  split at h
  · obtain ⟨xs, m, hz, h⟩ := elL_of h
    obtain ⟨g, ys, h1, q, z⟩ := ok.mem _ _ m
    cases rv
    cases rl with
    | cons r1 r2 =>
      cases r2
      exact ⟨_, ys, _, rfl, rfl, h1, by rw [q.len]; exact hz, hq _ _ _ _ _ h (ok.write (m := .lst _) g ⟨_, upd_same, q.append (.one r1), by rw [List.length_append]; exact hz⟩) (Same.refl _) .non⟩
  · exact h.elim
abbrev rInsert : V → List V → Hp → VK → Prop := fun x vs H Q => ∃ (l : Addr) (xs : List V) (i : Int) (y : V), x = .ref l ∧ vs = [.int i, y] ∧ H l = some (.lst xs) ∧ xs.length < sizeLine ∧ 0 ≤ i ∧ i < 2 ^ 63 ∧
    Q .non (upd H l (.lst (xs.take i.toNat ++ [y] ++ xs.drop i.toNat)))
theorem l_insert : LMet K rInsert oInsert := by
  intro v vs H G M d ds Q Q' ok rv rl h hq
  unfold oInsert at h
  split at h
  · obtain ⟨xs, m, hz, h0, h2, h⟩ := elL_of h
    obtain ⟨g, ys, h1, q, z⟩ := ok.mem _ _ m
    cases rv
    cases rl with
    | cons r1 r2 =>
      cases r2 with
      | cons r2 r3 =>
        cases r3
        cases r1
        refine ⟨_, ys, _, _, rfl, rfl, h1, by rw [q.len]; exact hz, h0, h2, hq _ _ _ _ _ h (ok.write (m := .lst _) g ⟨_, upd_same, ((q.take _).append (.one r2)).append (q.drop _), ?_⟩) (Same.refl _) .non⟩
        rw [List.length_append, List.length_append, List.length_take, List.length_drop, List.length_singleton]
        omega
  · exact h.elim
theorem RepL.dropLast {G : Hp} {vs : List V} {ds : List D} (r : RepL K G vs ds) : RepL K G vs.dropLast ds.dropLast := by
  rw [List.dropLast_eq_take, List.dropLast_eq_take, r.len]
  exact r.take _
theorem l_pop : LMet K rPop oPop := by
  intro v vs H G M d ds Q Q' ok rv rl h hq
  unfold oPop at h
  split at h
  · obtain ⟨xs, m, h⟩ := elL_of h
    obtain ⟨z0, ez, h⟩ := el_of h
    obtain ⟨g, ys, h1, q, z⟩ := ok.mem _ _ m
    cases rv
    cases rl
    obtain ⟨y, ey, ry⟩ := q.at ez
    exact ⟨_, ys, y, rfl, rfl, h1, by rw [q.len]; exact ey, hq _ _ _ _ _ h (ok.write (m := .lst _) g ⟨_, upd_same, q.dropLast, by rw [List.length_dropLast]; omega⟩) (Same.refl _) ry⟩
  · exact h.elim
theorem l_popAt : LMet K rPopAt oPopAt := by
  intro v vs H G M d ds Q Q' ok rv rl h hq
  unfold oPopAt at h
  split at h
  · rename_i a i
    obtain ⟨xs, m, h0, h2, h⟩ := elL_of h
    obtain ⟨z0, ez, h⟩ := el_of h
    obtain ⟨g, ys, h1, q, z⟩ := ok.mem _ _ m
    cases rv
    cases rl with
    | cons r1 r2 =>
      cases r2
      cases r1
      obtain ⟨y, ey, ry⟩ := q.at ez
      have e1 : atI ys i = some y := by
        have : i = ((i.toNat : Nat) : Int) := by omega
        rw [this]
        exact atI_nat ey
      obtain ⟨j, f1, f2, f3, f4, f5⟩ := atI_get e1
      have hi : (i.toNat : Int) = i := Int.toNat_of_nonneg h0
      have ej : some i.toNat = some j := by
        rw [← f1]
        unfold seqIndex?
        dsimp only
        have h5 : i < (ys.length : Int) := f5
        rw [if_neg (show ¬ i < 0 by omega)]
        simp [h0, h5]
      cases ej
      exact ⟨_, ys, i, _, y, rfl, rfl, h1, by omega, by omega, f1, f2, hq _ _ _ _ _ h (ok.write (m := .lst _) g ⟨_, upd_same, q.erase _, by
        have := len_erase xs i.toNat
        omega⟩) (Same.refl _) ry⟩
  · exact h.elim
theorem l_index : LMet K (rIndex K) oIndex := by
  intro v vs H G M d ds Q Q' ok rv rl h hq
  unfold oIndex at h
  split at h
  · rename_i xs d e
    obtain ⟨fd, fs, j, z0, e1, e2, e3, h⟩ := h
    obtain ⟨a, ys, f, h1, q, z⟩ := rv.lstOf ok e
    cases rl with
    | cons r1 r2 =>
      cases r2
      obtain ⟨y, ey, ry⟩ := q.at e1
      have fl : ∀ {m : Nat} {z' : D}, xs[m]? = some z' → flatD z' = true := fun {m z'} hm => List.all_eq_true.mp fs z' (List.mem_of_getElem? hm)
      refine ⟨a, ys, _, j, y, f, rfl, SqL.of h1, r1.flat fd, q.flat fs, ey, by rw [ry.eqF r1 (fl e1) fd]; exact e2, fun m z' hm hz' => ?_, hq _ _ _ _ _ h ok (Same.refl _) (.int _)⟩
      obtain ⟨d', ed, rd⟩ := q.get hz'
      rw [rd.eqF r1 (fl ed) fd]
      exact e3 m d' hm ed
  · exact h.elim
theorem reps_strs {G : Hp} : ∀ {ns : List Str} {vs : List V}, RepL K G vs (ns.map D.str) → vs = ns.map V.str
  | [], _, .nil => rfl
  | i :: r, _, .cons (.str _ _) t => by rw [List.map_cons, ← reps_strs t]
theorem RepL.strs {G : Hp} : ∀ {ns : List Str}, (∀ z ∈ ns, strOk z = true) → RepL K G (ns.map V.str) (ns.map D.str)
  | [], _ => .nil
  | i :: r, h => .cons (.str _ (h i List.mem_cons_self)) (RepL.strs fun z hz => h z (List.mem_cons_of_mem _ hz))
abbrev rSplit : V → List V → Hp → VK → Prop := fun x xs H Q => ∃ a b, x = .str a ∧ xs = [.str b] ∧ (b.length == 0) = false ∧ a.length + 2 ≤ sizeLine ∧ rNewStrs (Txt.split a b) H Q
theorem l_split : LMet K rSplit oSplit := by
  intro v vs H G M d ds Q Q' ok rv rl h hq
  unfold oSplit at h
  split at h
  · rename_i a b
    obtain ⟨h0, h2, hz, hs, h⟩ := h
    cases rv
    cases rl with
    | cons r1 r2 =>
      cases r2
      cases r1
      refine ⟨a, b, rfl, rfl, h0, h2, fun p hp => ?_⟩
      have gp := ok.gnone hp
      exact hq _ _ _ _ _ h (ok.frozen hp) (same_upd gp) (.lst upd_same (.strs hs) (by rw [List.length_map]; exact hz))
  · exact h.elim
abbrev rJoin (K : PySem.W.Frag) : V → List V → Hp → VK → Prop := fun x xs H Q => ∃ a p, ∃ ys : List Str, x = .str a ∧ xs = [.ref p] ∧ (SqL K H p (ys.map V.str) ∨ SqT K H p (ys.map V.str)) ∧
    (ys.map (·.length)).sum + ys.length * a.length ≤ 16777216 ∧ Q (.str (Txt.join a ys)) H
theorem l_join : LMet K (rJoin K) oJoin := by
  intro v vs H G M d ds Q Q' ok rv rl h hq
  unfold oJoin at h
  split at h
  · rename_i a d
    obtain ⟨ys, e, hz, hs, h⟩ := h
    cases rv
    cases rl with
    | cons r1 r2 =>
      cases r2
      rcases e with e | e
      · obtain ⟨p, us, f, h1, q, z⟩ := r1.lstOf ok e
        have := reps_strs q
        subst this
        exact ⟨a, p, ys, rfl, by rw [f], .inl (SqL.of h1), hz, hq _ _ _ _ _ h ok (Same.refl _) (.str _ hs)⟩
      · obtain ⟨p, us, f, h1, q, z⟩ := r1.tupOf ok e
        have := reps_strs q
        subst this
        exact ⟨a, p, ys, rfl, by rw [f], .inr (SqT.of h1), hz, hq _ _ _ _ _ h ok (Same.refl _) (.str _ hs)⟩
  · exact h.elim
end
end DL

/-! The data layer: what is walked, comprehensions -/
namespace DL
open PySem PySem.Spec PyProof.Rows L2

/-- the items, and what has to stay so while they are walked -/
abbrev DI := DS → Mem → (List D → (Mem → Prop) → Mem → Prop) → XD → Prop
def LIt (K : PySem.W.Frag) (G0 : Hp) (J : It) (items : List D) (P : Mem → Prop) : Prop := ∀ (i : Nat) (H G : Hp) (M : Mem), Ok K H G M → Same G0 G → P M →
  (items.length ≤ i → J.stop i H) ∧ (∀ d, items[i]? = some d → J.go i H ∧ ∀ x H', J.yld i H x H' → ∃ G', Ok K H' G' M ∧ Same G G' ∧ Rep K G' x d)
def upI (K : PySem.W.Frag) (W : WX) (t : DI) : TI := fun σ H R => ∃ (G : Hp) (M : Mem) (δ : DS) (R' : List D → (Mem → Prop) → Mem → Prop) (X' : XD), Ok K H G M ∧ Slots K G σ δ ∧ t δ M R' X' ∧
  (∀ items P M' J H' G', R' items P M' → Ok K H' G' M' → Same G G' → LIt K G' J items P → items.length ≤ sizeLine → R J H') ∧ WOk K W G X'
abbrev PDI (X : Cx) (W : WX) (tg iter : Expr) (t : DI) : Prop := PI X tg iter (upI X.K W t)
theorem PIw {X : Cx} {tg e : Expr} {t t' : TI} (h : PI X tg e t) (w : ∀ σ H Q, t' σ H Q → t σ H Q) : PI X tg e t' := ⟨fun pins s σ H Q I q => h.run pins s σ H Q I (w σ H Q q)⟩

/-- a list, a tuple, a text -/
def iAny (K : PySem.W.Frag) (tl : TE) : TI := fun σ H R => tl σ H fun x H1 => (∃ a, x = .ref a ∧ (∃ xs, SqL K H1 a xs) ∧ R (Itl K a) H1) ∨ (∃ a, x = .ref a ∧ (∃ xs, SqT K H1 a xs) ∧ R (Itt K a) H1) ∨ (∃ z, x = .str z ∧ R (Its z) H1)
theorem pi_any {X : Cx} {tg l : Expr} {tl : TE} (hl : PE X l tl) : PI X tg l (iAny X.K tl) := by
  refine ⟨fun pins s σ H R I h => ?_⟩
  refine thn (hl.run pins s σ H _ I h) fun v s1 ⟨x, H1, I1, r1, q1⟩ => ?_
  rcases q1 with ⟨a, e, ⟨xs, hq⟩, q⟩ | ⟨a, e, ⟨xs, hq⟩, q⟩ | ⟨z, e, q⟩
  · subst e
    cases r1
    obtain ⟨its, rv, p, hz⟩ := I1.list hq
    refine wpAny_pyIter_list p.isList ?_
    refine ⟨s1.heap.objs.size, [s1.heap.objs.size], _, _, H1, rfl, I1.kept (t' := s1.toks) fun b o e => Heap.get?_push_of_some _ e, turn_list a _, ⟨_, Heap.get?_push_size _ rfl, rfl, rfl⟩, fun b hb => ?_, q⟩
    have e : b = s1.heap.objs.size := by simpa using hb
    subst e
    exact I1.fpOk (Nat.le_refl _) (I1.hok.fresh (Nat.le_refl _))
  · subst e
    cases r1
    obtain ⟨its, rv, p, hz⟩ := I1.tuple hq
    refine wpAny_pyIter_tuple (show s1.heap.IsTuple a its.toArray from p) ?_
    refine ⟨s1.heap.objs.size, [s1.heap.objs.size], _, _, H1, rfl, I1.kept (t' := s1.toks) fun b o e => Heap.get?_push_of_some _ e, turn_tuple a _, ⟨_, Heap.get?_push_size _ rfl, rfl, rfl⟩, fun b hb => ?_, q⟩
    have e : b = s1.heap.objs.size := by simpa using hb
    subst e
    exact I1.fpOk (Nat.le_refl _) (I1.hok.fresh (Nat.le_refl _))
  · subst e
    obtain ⟨t, rfl⟩ := r1
    cases ha : z.cps.all (· < 128)
    · exact wpAny_pyIter_wide ha (pi_one (tk := s1.toks) I1 _ (turn_str _ z t "str_iterator" (.inr rfl)) ⟨_, Heap.get?_push_size _ rfl, rfl, rfl⟩ q)
    · exact wpAny_pyIter_ascii ha (pi_one (tk := s1.toks) I1 _ (turn_str _ z t "str_ascii_iterator" (.inl rfl)) ⟨_, Heap.get?_push_size _ rfl, rfl, rfl⟩ q)

def signsD (z : Str) : List D := z.cps.toList.map fun c => .str ⟨#[c]⟩
abbrev still : Mem → Prop := fun _ => True
def itemsOf (d : D) (M : Mem) (F : List D → (Mem → Prop) → Prop) : Prop := match d with
  | .lst ds => F ds still
  | .tup ds => F ds still
  | .str z => F (signsD z) still
  | .obj a => elL (M a) fun ds => F ds fun M' => M' a = some (.lst ds)
  | _ => False
def dItems (t : DE) : DI := fun δ M R X => t δ M (fun d M1 => itemsOf d M1 fun items P => R items P M1) X
def rangeD (lo : Int) (n : Nat) : List D := (List.range n).map fun i => .int (lo + (i : Nat))
def rng1 (ds : List D) (F : List D → (Mem → Prop) → Prop) : Prop := match ds with
  | [.int j] => -1000000 ≤ j ∧ j ≤ 1000000 ∧ F (rangeD 0 j.toNat) still
  | _ => False
def dRange1 (t : DA) : DI := fun δ M R X => t δ M (fun ds M1 => rng1 ds fun items P => R items P M1) X
def enumD : Nat → List D → List D
  | _, [] => []
  | i, d :: r => .tup [.int (i : Nat), d] :: enumD (i + 1) r
def enumOf (ds : List D) (M : Mem) (F : List D → (Mem → Prop) → Prop) : Prop := match ds with
  | [.lst xs] => F (enumD 0 xs) still
  | [.obj a] => elL (M a) fun xs => F (enumD 0 xs) fun M' => M' a = some (.lst xs)
  | _ => False
def dEnum (t : DA) : DI := fun δ M R X => t δ M (fun ds M1 => enumOf ds M1 fun items P => R items P M1) X
section
variable {X : Cx} {W : WX} {tg e : Expr} {te : DE} {t : DA} {K : PySem.W.Frag}
theorem it_list {G : Hp} {a : Addr} {vs : List V} {ds : List D} (h : G a = some (.lst vs)) (r : RepL K G vs ds) : LIt K G (Itl K a) ds still := fun i H G1 M ok s _ => by
  have hS : SqL K H a vs := SqL.of (ok.sub _ _ (s _ _ h))
  refine ⟨fun hl => ⟨vs, hS, by rw [r.len]; exact hl⟩, fun d hd => ?_⟩
  obtain ⟨v, ev, rv⟩ := r.at hd
  refine ⟨⟨vs, v, hS, ev⟩, fun x H' ⟨e1, e2⟩ => ?_⟩
  have := e2 vs hS
  rw [ev] at this
  cases this
  subst e1
  exact ⟨G1, ok, Same.refl _, rv.mono s⟩
theorem it_tup {G : Hp} {a : Addr} {vs : List V} {ds : List D} (h : G a = some (.tup vs)) (r : RepL K G vs ds) : LIt K G (Itt K a) ds still := fun i H G1 M ok s _ => by
  have hS : SqT K H a vs := SqT.of (ok.sub _ _ (s _ _ h))
  refine ⟨fun hl => ⟨vs, hS, by rw [r.len]; exact hl⟩, fun d hd => ?_⟩
  obtain ⟨v, ev, rv⟩ := r.at hd
  refine ⟨⟨vs, v, hS, ev⟩, fun x H' ⟨e1, e2⟩ => ?_⟩
  have := e2 vs hS
  rw [ev] at this
  cases this
  subst e1
  exact ⟨G1, ok, Same.refl _, rv.mono s⟩
theorem it_str {G : Hp} {z : Str} (h : strOk z = true) : LIt K G (Its z) (signsD z) still := fun i H G1 M ok s _ => by
  unfold signsD
  refine ⟨fun hl => by
    rw [List.length_map, Array.length_toList] at hl
    exact hl, fun d hd => ?_⟩
  rw [List.getElem?_map, Array.getElem?_toList] at hd
  cases ec : z.cps[i]? with
  | none => rw [ec] at hd; cases hd
  | some c =>
    rw [ec] at hd
    cases hd
    refine ⟨(Array.getElem?_eq_some_iff.mp ec).1, fun x H' ⟨e1, c', e2, e3⟩ => ?_⟩
    rw [ec] at e2; cases e2
    subst e1 e3
    exact ⟨G1, ok, Same.refl _, .str _ (strOk_one h (List.mem_of_getElem? (by rw [Array.getElem?_toList]; exact ec)))⟩
theorem it_range {G : Hp} {lo : Int} {n : Nat} : LIt K G (Itr lo n) (rangeD lo n) still := fun i H G1 M ok s _ => by
  unfold rangeD
  refine ⟨fun hl => by
    rw [List.length_map, List.length_range] at hl
    exact hl, fun d hd => ?_⟩
  rw [List.getElem?_map] at hd
  cases ec : (List.range n)[i]? with
  | none => rw [ec] at hd; cases hd
  | some c =>
    rw [ec] at hd
    cases hd
    obtain ⟨hi, ei⟩ := List.getElem?_eq_some_iff.mp ec
    rw [List.getElem_range] at ei
    subst ei
    refine ⟨(by simpa using hi : i < n), fun x H' ⟨e1, e2⟩ => ?_⟩
    subst e1 e2
    exact ⟨G1, ok, Same.refl _, .int _⟩
theorem enumD_len : ∀ (k : Nat) (ds : List D), (enumD k ds).length = ds.length
  | _, [] => rfl
  | k, d :: r => by rw [enumD, List.length_cons, List.length_cons, enumD_len]
theorem enumD_get : ∀ (k : Nat) (ds : List D) (i : Nat), (enumD k ds)[i]? = (ds[i]?).map fun d => .tup [.int ((k + i : Nat) : Int), d]
  | _, [], i => by simp [enumD]
  | k, d :: r, 0 => by simp [enumD]
  | k, d :: r, i + 1 => by
    rw [enumD, List.getElem?_cons_succ, List.getElem?_cons_succ, enumD_get (k + 1) r i]
    rw [show k + 1 + i = k + (i + 1) by omega]
theorem it_enum {G : Hp} {a : Addr} {vs : List V} {ds : List D} (h : G a = some (.lst vs)) (r : RepL K G vs ds) : LIt K G (Ite K a) (enumD 0 ds) still := fun i H G1 M ok s _ => by
  have hS : SqL K H a vs := SqL.of (ok.sub _ _ (s _ _ h))
  refine ⟨fun hl => ⟨vs, hS, by rw [r.len]; rw [enumD_len] at hl; exact hl⟩, fun d hd => ?_⟩
  rw [enumD_get] at hd
  cases ec : ds[i]? with
  | none => rw [ec] at hd; cases hd
  | some d0 =>
    rw [ec] at hd
    cases hd
    obtain ⟨v, ev, rv⟩ := r.at ec
    refine ⟨⟨vs, v, hS, ev⟩, fun x H' ⟨T, y, e1, e2, e3, e4⟩ => ?_⟩
    have := e4 vs hS
    rw [ev] at this
    cases this
    subst e1 e3
    have gp := ok.gnone e2
    refine ⟨_, ok.frozen e2, same_upd gp, .tup upd_same ?_ (by show 2 ≤ sizeLine; rw [sizeLine_eq]; decide)⟩
    rw [Nat.zero_add]
    exact .cons (.int _) (.one ((rv.mono s).mono (same_upd gp)))
theorem it_listM {G : Hp} {a : Addr} {ds : List D} : LIt K G (Itl K a) ds (fun M' => M' a = some (.lst ds)) := fun i H G1 M ok s m => by
  obtain ⟨g, vs, h, r, z⟩ := ok.mem _ _ m
  have hS : SqL K H a vs := SqL.of h
  refine ⟨fun hl => ⟨vs, hS, by rw [r.len]; exact hl⟩, fun d hd => ?_⟩
  obtain ⟨v, ev, rv⟩ := r.at hd
  refine ⟨⟨vs, v, hS, ev⟩, fun x H' ⟨e1, e2⟩ => ?_⟩
  have := e2 vs hS
  rw [ev] at this
  cases this
  subst e1
  exact ⟨G1, ok, Same.refl _, rv⟩
theorem it_enumM {G : Hp} {a : Addr} {ds : List D} : LIt K G (Ite K a) (enumD 0 ds) (fun M' => M' a = some (.lst ds)) := fun i H G1 M ok s m => by
  obtain ⟨g, vs, h, r, z⟩ := ok.mem _ _ m
  have hS : SqL K H a vs := SqL.of h
  refine ⟨fun hl => ⟨vs, hS, by rw [r.len]; rw [enumD_len] at hl; exact hl⟩, fun d hd => ?_⟩
  rw [enumD_get] at hd
  cases ec : ds[i]? with
  | none => rw [ec] at hd; cases hd
  | some d0 =>
    rw [ec] at hd
    cases hd
    obtain ⟨v, ev, rv⟩ := r.at ec
    refine ⟨⟨vs, v, hS, ev⟩, fun x H' ⟨T, y, e1, e2, e3, e4⟩ => ?_⟩
    have := e4 vs hS
    rw [ev] at this
    cases this
    subst e1 e3
    have gp := ok.gnone e2
    refine ⟨_, ok.frozen e2, same_upd gp, .tup upd_same ?_ (by show 2 ≤ sizeLine; rw [sizeLine_eq]; decide)⟩
    rw [Nat.zero_add]
    exact .cons (.int _) (.one (rv.mono (same_upd gp)))
theorem pdi_any (h : PD X W e te) : PDI X W tg e (dItems te) :=
  PIw (pi_any h) fun σ H Q ⟨G, M, δ, Q', X', ok, sl, h, hq, hx⟩ => ⟨G, M, δ, _, X', ok, sl, h, fun d M1 v H1 G1 h1 ok1 e1 r1 => by
    unfold itemsOf at h1
    split at h1
    · cases r1 with
      | lst hg r z => exact .inl ⟨_, rfl, ⟨_, SqL.of (ok1.sub _ _ hg)⟩, hq _ _ _ _ _ _ h1 ok1 e1 (it_list hg r) z⟩
    · cases r1 with
      | tup hg r z => exact .inr (.inl ⟨_, rfl, ⟨_, SqT.of (ok1.sub _ _ hg)⟩, hq _ _ _ _ _ _ h1 ok1 e1 (it_tup hg r) z⟩)
    · cases r1 with
      | str z hs => exact .inr (.inr ⟨_, rfl, hq _ _ _ _ _ _ h1 ok1 e1 (it_str hs) (by unfold signsD; rw [List.length_map, Array.length_toList]; exact strOk_len hs)⟩)
    · obtain ⟨ds, m, h2⟩ := elL_of h1
      obtain ⟨g, vs, hH, r, z⟩ := ok1.mem _ _ m
      cases r1
      exact .inl ⟨_, rfl, ⟨_, SqL.of hH⟩, hq _ _ _ _ _ _ h2 ok1 e1 it_listM z⟩
    · exact h1.elim, hx⟩
theorem line_big : (1000000 : Nat) ≤ sizeLine := by rw [sizeLine_eq]; decide
theorem pdi_range1 {a : Expr} {p pos : Pos} (hg : Gl X "range") (hm : X.mg "range" = none) (ha : PDA X W [a] t) (hs : starEach [a] X.env = [(false, eval a X.env)] := by rfl) : PDI X W tg (.Call (.Name "range" p) [a] [] pos) (dRange1 t) :=
  PIw (pi_range1 hg hm ha hs) fun σ H Q ⟨G, M, δ, Q', X', ok, sl, h, hq, hx⟩ => ⟨G, M, δ, _, X', ok, sl, h, fun ds M1 vs H1 G1 h1 ok1 e1 r1 => by
    unfold rng1 at h1
    split at h1
    · rename_i j
      cases r1 with
      | cons r1 r2 =>
        cases r2
        cases r1
        obtain ⟨b1, b2, h1⟩ := h1
        exact ⟨j, rfl, by omega, by omega, hq _ _ _ _ _ _ h1 ok1 e1 it_range (by
          unfold rangeD
          rw [List.length_map, List.length_range]
          have := line_big
          omega)⟩
    · exact h1.elim, hx⟩
theorem pdi_enum {p pos tpos : Pos} {elts : List Expr} {kk : Nat} (hg : Gl X "enumerate") (hm : X.mg "enumerate" = none) (ha : PDA X W [e] t) (hs : starEach [e] X.env = [(false, eval e X.env)] := by rfl) :
    PDI X W (.Tuple elts kk tpos) (.Call (.Name "enumerate" p) [e] [] pos) (dEnum t) :=
  PIw (pi_enum hg hm ha hs) fun σ H Q ⟨G, M, δ, Q', X', ok, sl, h, hq, hx⟩ => ⟨G, M, δ, _, X', ok, sl, h, fun ds M1 vs H1 G1 h1 ok1 e1 r1 => by
    unfold enumOf at h1
    split at h1
    · cases r1 with
      | cons r1 r2 =>
        cases r2
        cases r1 with
        | lst hg r z => exact ⟨_, _, rfl, SqL.of (ok1.sub _ _ hg), hq _ _ _ _ _ _ h1 ok1 e1 (it_enum hg r) (by rw [enumD_len]; exact z)⟩
    · obtain ⟨xs, m, h2⟩ := elL_of h1
      obtain ⟨g, vs, hH, r, z⟩ := ok1.mem _ _ m
      cases r1 with
      | cons r1 r2 =>
        cases r2
        cases r1
        exact ⟨_, _, rfl, SqL.of hH, hq _ _ _ _ _ _ h2 ok1 e1 it_enumM (by rw [enumD_len]; exact z)⟩
    · exact h1.elim, hx⟩
end

/-! ### comprehensions -/
abbrev PDTs (X : Cx) (W : WX) (ifs : List Expr) (t : DT) : Prop := PTs X ifs (upT X.K W t)
def dYes : DT := fun _ M Q _ => Q true M
def lcL (D0 : Addr) (i : Nat) (tt : DT) (te : DE) (δ : DS) (P : Mem → Prop) (Q : Mem → Prop) : List D → List D → Mem → Prop
  | [], _, M => P M ∧ Q M
  | x :: xs, acc, M => P M ∧ tt (δ.set i (some x)) M (fun b M1 => cond b (te (δ.set i (some x)) M1 (fun d M2 => M2 D0 = some (.lst acc) ∧ lcL D0 i tt te δ P Q xs (acc ++ [d]) (M2.set D0 (.lst (acc ++ [d])))) fun _ _ _ => False) (M1 D0 = some (.lst acc) ∧ lcL D0 i tt te δ P Q xs acc M1)) fun _ _ _ => False
theorem lcL_P {D0 : Addr} {i : Nat} {tt : DT} {te : DE} {δ : DS} {P Q : Mem → Prop} {M : Mem} : ∀ {xs acc : List D}, lcL D0 i tt te δ P Q xs acc M → P M
  | [], _, h => h.1
  | _ :: _, _, h => h.1
/-- [elt for x in items if tt], x in slot i: a list that may change -/
def dLcM (ti : DI) (i : Nat) (tt : DT) (te : DE) : DE := fun δ M Q X => ti δ M (fun items P M1 => ∀ D0, M1 D0 = none → lcL D0 i tt te (dwipe δ [i]) P (fun M2 => Q (.obj D0) M2) items [] (M1.set D0 (.lst []))) X
abbrev dLc (ti : DI) (i : Nat) (tt : DT) (te : DE) : DE := dFrz (dLcM ti i tt te)
section
variable {X : Cx} {W : WX} {K : PySem.W.Frag} {ti : DI} {i : Nat} {tt : DT} {te : DE}
theorem pdts_nil : PDTs X W [] dYes := ⟨fun pins s σ H Q I ⟨G, M, δ, Q', X', ok, sl, h, hq, hx⟩ => (pts_nil (X := X)).run pins s σ H Q I (hq true M H G h ok (Same.refl _))⟩
theorem pdts_one {c : Expr} {t : DT} (h : PDT X W c t) : PDTs X W [c] t := pts_one h
theorem up_frz {te : DE} {σ : L2.St} {H : Hp} {Q : VK} (h : up K W (dFrz te) σ H Q) : up K W te σ H Q := by
  obtain ⟨G, M, δ, Q', X', ok, sl, h, hq, hx⟩ := h
  refine ⟨G, M, δ, _, X', ok, sl, h, fun d M1 v H1 G1 h1 ok1 e1 r1 => ?_, hx⟩
  obtain ⟨d', M', G', h2, ok2, e2, r2⟩ := frz_of ok1 r1 h1
  exact hq _ _ _ _ _ h2 ok2 (e1.trans e2) r2
theorem up_lc {σ : L2.St} {H : Hp} {Q : VK} (h : up K W (dLcM ti i tt te) σ H Q) : tLc (upI K W ti) (gName i) (upT K W0 tt) (up K W0 te) [i] σ H Q := by
  obtain ⟨G, M, δ, Q', X', ok, sl, h, hq, hx⟩ := h
  refine ⟨G, M, δ, _, X', ok, sl, h, fun items P M1 J H1 G1 h1 ok1 e1 it hz => fun D0 hD => ?_, hx⟩
  have gD := ok1.gnone hD
  refine ⟨fun k m H2 => m = items.length - k ∧ k ≤ items.length ∧ ∃ (G2 : Hp) (M2 : Mem) (acc : List D), Ok K H2 G2 M2 ∧ Same G1 G2 ∧ acc.length ≤ k ∧ M2 D0 = some (.lst acc) ∧
    lcL D0 i tt te (dwipe δ [i]) P (fun M2 => Q' (.obj D0) M2) (items.drop k) acc M2, ⟨items.length, by omega, Nat.zero_le _, G1, M1.set D0 (.lst []), [], ok1.write gD ⟨[], upd_same, .nil, Nat.zero_le _⟩, Same.refl _, Nat.le_refl _, Mem.set_same, h1 D0 (ok1.mnone hD)⟩, ?_⟩
  rintro k m H2 ⟨rfl, hk, G2, M2, acc, ok2, e2, ha, hm, hl⟩
  obtain ⟨st, go⟩ := it k H2 G2 M2 ok2 e2 (lcL_P hl)
  by_cases hlt : k < items.length
  · refine .inr ?_
    obtain ⟨g0, gy⟩ := go items[k] (by simp [hlt])
    refine ⟨g0, fun H' => k + 1 ≤ items.length ∧ ∃ (G2 : Hp) (M2 : Mem) (acc : List D), Ok K H' G2 M2 ∧ Same G1 G2 ∧ acc.length ≤ k + 1 ∧ M2 D0 = some (.lst acc) ∧
      lcL D0 i tt te (dwipe δ [i]) P (fun M2 => Q' (.obj D0) M2) (items.drop (k + 1)) acc M2, fun H' hn => ⟨items.length - (k + 1), by omega, rfl, hn.1, hn.2⟩, fun x H' y => ?_⟩
    obtain ⟨G3, ok3, e3, r3⟩ := gy x H' y
    have ed : items.drop k = items[k] :: items.drop (k + 1) := List.drop_eq_getElem_cons hlt
    rw [ed] at hl
    have hl := hl.2
    refine ⟨?_, G3, M2, (dwipe δ [i]).set i (some items[k]), _, _, ok3, ?_, hl, fun b M4 H4 G4 h4 ok4 e4 => ?_, WOk.bot⟩
    · show (((σ.set i none).set i (some x)).set i none) = σ.set i none
      rw [List.set_set, List.set_set]
    · exact Slots.set (.yes r3) i (Slots.wipe (sl.mono (e1.trans (e2.trans e3))) [i])
    · cases b with
      | false =>
        rw [if_neg Bool.false_ne_true]
        exact ⟨hlt, G4, M4, acc, ok4, e2.trans (e3.trans e4), by omega, h4.1, h4.2⟩
      | true =>
        rw [if_pos rfl]
        refine ⟨G4, M4, (dwipe δ [i]).set i (some items[k]), _, _, ok4, ?_, h4, fun d M5 v H5 G5 h5 ok5 e5 r5 => ?_, WOk.bot⟩
        · exact Slots.set (.yes (r3.mono e4)) i (Slots.wipe (sl.mono (e1.trans (e2.trans (e3.trans e4)))) [i])
        · obtain ⟨h5, h6⟩ := h5
          obtain ⟨g5, vs, hH, q, z⟩ := ok5.mem _ _ h5
          refine ⟨vs, hH, by rw [q.len]; omega, hlt, G5, _, _, ok5.write (m := .lst (acc ++ [d])) g5 ⟨_, upd_same, q.append (.one r5), by rw [List.length_append, List.length_singleton]; omega⟩, e2.trans (e3.trans (e4.trans e5)), by rw [List.length_append, List.length_singleton]; omega, Mem.set_same, h6⟩
  · have e : k = items.length := by omega
    subst e
    rw [List.drop_length] at hl
    exact .inl ⟨st (Nat.le_refl _), hq _ _ _ _ _ hl.2 ok2 (e1.trans e2) (.obj D0)⟩
variable {elt tg iter : Expr} {ifs : List Expr} {scope : Scope} {x : Str} {pos : Pos}
theorem pd_lcM (hc : X.calm = true) (hN : X.N.Nodup) (hi : PDI X W tg iter ti) (ok : BlkOk X.N X.env.scope scope [(x, i)])
    (hg : ∀ (s : Shared) (H : Hp) (C : Addr) (cl : List (Str × Addr)) (fp : List Addr), PG (X.blk s H scope (compEnvC scope cl C X.env) fp) tg (gName i)) (ht : ∀ (s : Shared) (H : Hp) (C : Addr) (cl : List (Str × Addr)) (fp : List Addr), PDTs (X.blk s H scope (compEnvC scope cl C X.env) fp) W0 ifs tt)
    (he : ∀ (s : Shared) (H : Hp) (C : Addr) (cl : List (Str × Addr)) (fp : List Addr), PD (X.blk s H scope (compEnvC scope cl C X.env) fp) W0 elt te) (hs : ∀ x, foldedSetIterable iter X.env x = pure x := by intro _; rfl) :
    PD X W (.ListComp elt [⟨tg, iter, ifs, 0⟩] scope pos) (dLcM ti i tt te) := PEw (pe_lc hc hN hi ok hg ht he hs) fun _ _ _ h => up_lc h
theorem pd_lc (hc : X.calm = true) (hN : X.N.Nodup) (hi : PDI X W tg iter ti) (ok : BlkOk X.N X.env.scope scope [(x, i)])
    (hg : ∀ (s : Shared) (H : Hp) (C : Addr) (cl : List (Str × Addr)) (fp : List Addr), PG (X.blk s H scope (compEnvC scope cl C X.env) fp) tg (gName i)) (ht : ∀ (s : Shared) (H : Hp) (C : Addr) (cl : List (Str × Addr)) (fp : List Addr), PDTs (X.blk s H scope (compEnvC scope cl C X.env) fp) W0 ifs tt)
    (he : ∀ (s : Shared) (H : Hp) (C : Addr) (cl : List (Str × Addr)) (fp : List Addr), PD (X.blk s H scope (compEnvC scope cl C X.env) fp) W0 elt te) (hs : ∀ x, foldedSetIterable iter X.env x = pure x := by intro _; rfl) :
    PD X W (.ListComp elt [⟨tg, iter, ifs, 0⟩] scope pos) (dLc ti i tt te) := pd_frz (pd_lcM hc hN hi ok hg ht he hs)
end

/-- a comprehension whose parts only read -/
theorem lcL_pure {D0 : Addr} {i : Nat} {tt : DT} {te : DE} {δ : DS} {P Q : Mem → Prop} {M : Mem} (hD : M D0 = none) (hP : ∀ M', M.Sub M' → P M') (p : D → Bool) (f : D → D) : ∀ {xs : List D} {acc : List D},
    (∀ x, x ∈ xs → ∀ M', M.Sub M' → ∀ Qb : Bool → Mem → Prop, Qb (p x) M' → tt (δ.set i (some x)) M' Qb fun _ _ _ => False) →
    (∀ x, x ∈ xs → p x = true → ∀ M', M.Sub M' → ∀ Qd : QD, Qd (f x) M' → te (δ.set i (some x)) M' Qd fun _ _ _ => False) →
    Q (M.set D0 (.lst (acc ++ (xs.filter p).map f))) → lcL D0 i tt te δ P Q xs acc (M.set D0 (.lst acc))
  | [], acc, _, _, h => by
    refine ⟨hP _ (Mem.sub_set hD), ?_⟩
    simpa using h
  | x :: xs, acc, h1, h2, h => by
    refine ⟨hP _ (Mem.sub_set hD), h1 x List.mem_cons_self _ (Mem.sub_set hD) _ ?_⟩
    cases e : p x with
    | true =>
      refine h2 x List.mem_cons_self e _ (Mem.sub_set hD) _ ⟨Mem.set_same, ?_⟩
      rw [Mem.set_set]
      refine lcL_pure hD hP p f (fun y hy => h1 y (List.mem_cons_of_mem _ hy)) (fun y hy => h2 y (List.mem_cons_of_mem _ hy)) ?_
      rw [List.filter_cons_of_pos e, List.map_cons] at h
      rw [List.append_assoc]
      exact h
    | false =>
      refine ⟨Mem.set_same, lcL_pure hD hP p f (fun y hy => h1 y (List.mem_cons_of_mem _ hy)) (fun y hy => h2 y (List.mem_cons_of_mem _ hy)) ?_⟩
      rw [List.filter_cons_of_neg (by rw [e]; exact Bool.false_ne_true)] at h
      exact h
end DL

/-! The data layer: statements -/
namespace DL
open PySem PySem.Spec PyProof.Rows L2

theorem EOk.mono {K : PySem.W.Frag} {W : WX} {G G1 : Hp} {E : DEnds} {D' : Ends} (h : EOk K W G E D') (e : Same G G1) : EOk K W G1 E D' :=
  ⟨fun δ M σ H G' a b s => h.nx δ M σ H G' a b (e.trans s), fun d M v H G' a b s => h.rt d M v H G' a b (e.trans s), fun δ M σ H G' a b s => h.bk δ M σ H G' a b (e.trans s), fun δ M σ H G' a b s => h.ct δ M σ H G' a b (e.trans s), h.xc.mono e⟩

def dNext : DSt := fun E δ M => E.nx δ M
def dSeq (t u : DSt) : DSt := fun E δ M => t { E with nx := u E } δ M
def dExpr (te : DE) : DSt := fun E δ M => te δ M (fun _ M1 => E.nx δ M1) E.xc
def dRet (te : DE) : DSt := fun E δ M => te δ M E.rt E.xc
def dIfS (c : DT) (t u : DSt) : DSt := fun E δ M => c δ M (fun b M1 => cond b (t E δ M1) (u E δ M1)) E.xc
def dSet (i : Nat) (te : DE) : DSt := fun E δ M => te δ M (fun d M1 => E.nx (δ.set i (some d)) M1) E.xc
def dCont : DSt := fun E δ M => E.ct δ M
def dRaise (C : Addr) : DSt := fun E δ M => E.xc C δ M
/-- code that is never come to -/
def dNever : DSt := fun _ _ _ => False
section
variable {X : Cx} {W : WX} {K : PySem.W.Frag} {st : Stmt} {rest : List Stmt} {t u : DSt} {e : Expr} {te : DE} {pos : Pos}
theorem pdss_nil : PDSs X W [] dNext := PSsw pss_nil fun D σ H ⟨G, M, δ, E, ok, sl, h, eo⟩ => eo.nx _ _ _ _ _ h ok (Same.refl _) sl
theorem pdss_cons (h1 : PDS X W st t) (h2 : PDSs X W rest u) : PDSs X W (st :: rest) (dSeq t u) :=
  PSsw (pss_cons h1 h2) fun D σ H ⟨G, M, δ, E, ok, sl, h, eo⟩ => ⟨G, M, δ, _, ok, sl, h, ⟨fun δ' M' σ' H' G' h' ok' e' sl' => ⟨G', M', δ', E, ok', sl', h', eo.mono e'⟩, eo.rt, eo.bk, eo.ct, eo.xc⟩⟩
theorem pdss_one (h1 : PDS X W st t) : PDSs X W [st] t := pss_one h1
theorem pds_expr (he : PD X W e te) (hs : swapsWith e none pos.line X.env = pure false := by rfl) : PDS X W (.Expr e pos) (dExpr te) :=
  PSw (ps_expr he hs) fun D σ H ⟨G, M, δ, E, ok, sl, h, eo⟩ => ⟨G, M, δ, _, _, ok, sl, h, fun d M1 v H1 G1 h1 ok1 e1 r1 => eo.nx _ _ _ _ _ h1 ok1 e1 (sl.mono e1), eo.xc⟩
theorem pds_ret (he : PD X W e te) : PDS X W (.Return (some e) pos) (dRet te) :=
  PSw (ps_ret he) fun D σ H ⟨G, M, δ, E, ok, sl, h, eo⟩ => ⟨G, M, δ, _, _, ok, sl, h, fun d M1 v H1 G1 h1 ok1 e1 r1 => eo.rt _ _ _ _ _ h1 ok1 e1 r1, eo.xc⟩
theorem pds_if {c : Expr} {a b : List Stmt} {tc : DT} (hc : PDT X W c tc) (ha : PDSs X W a t) (hb : PDSs X W b u) : PDS X W (.If c a b pos) (dIfS tc t u) :=
  PSw (ps_if hc ha hb) fun D σ H ⟨G, M, δ, E, ok, sl, h, eo⟩ => ⟨G, M, δ, _, _, ok, sl, h, fun d M1 H1 G1 h1 ok1 e1 => by
    cases d with
    | true => rw [if_pos rfl]; exact ⟨G1, M1, δ, E, ok1, sl.mono e1, h1, eo.mono e1⟩
    | false => rw [if_neg Bool.false_ne_true]; exact ⟨G1, M1, δ, E, ok1, sl.mono e1, h1, eo.mono e1⟩, eo.xc⟩
theorem pds_pass : PDS X W (.Pass pos) dNext := PSw ps_pass fun D σ H ⟨G, M, δ, E, ok, sl, h, eo⟩ => eo.nx _ _ _ _ _ h ok (Same.refl _) sl
theorem pds_cont : PDS X W (.Continue pos) dCont := PSw ps_continue fun D σ H ⟨G, M, δ, E, ok, sl, h, eo⟩ => eo.ct _ _ _ _ _ h ok (Same.refl _) sl
theorem pds_never : PDS X W st dNever := PSw ps_never fun D σ H ⟨G, M, δ, E, ok, sl, h, eo⟩ => h.elim
/-- name = value -/
theorem pds_set {i : Nat} {x : Str} {pos' : Pos} (hN : X.N.Nodup) (hi : X.N[i]? = some x) (hx : Loc X.env.scope x) (he : PD X W e te) (hs : swapsWith e (some (.Name x pos')) pos.line X.env = pure false := by rfl) (hf : X.fn x = true ∨ X.env.scope.names.lookup x = some .local := by first | exact .inl rfl | exact .inr rfl | assumption) :
    PDS X W (.Assign [.Name x pos'] e pos) (dSet i te) :=
  PSw (ps_set hN hi hx he hs hf) fun D σ H ⟨G, M, δ, E, ok, sl, h, eo⟩ => ⟨G, M, δ, _, _, ok, sl, h, fun d M1 v H1 G1 h1 ok1 e1 r1 => eo.nx _ _ _ _ _ h1 ok1 e1 (Slots.set (.yes r1) i (sl.mono e1)), eo.xc⟩
/-- name = [..] on one line, the name a local -/
theorem pds_setLcM {i j : Nat} {y x : Str} {py : Pos} {elt tg iter : Expr} {ifs : List Expr} {scope : Scope} {pos spos : Pos} {ti : DI} {tt : DT} {te : DE} (hc : X.calm = true) (hN : X.N.Nodup) (hy : X.N[i]? = some y) (hyl : X.env.scope.names.lookup y = some .local)
    (hsw : swapsWith (.ListComp elt [⟨tg, iter, ifs, 0⟩] scope pos) (some (.Name y py)) spos.line X.env = pure true) (hi : PDI X W tg iter ti) (ok : BlkOk X.N X.env.scope scope [(x, j)])
    (hg : ∀ (s : Shared) (H : Hp) (C : Addr) (cl : List (Str × Addr)) (fp : List Addr), PG (X.blk s H scope (compEnvC scope cl C X.env) fp) tg (gName j)) (ht : ∀ (s : Shared) (H : Hp) (C : Addr) (cl : List (Str × Addr)) (fp : List Addr), PDTs (X.blk s H scope (compEnvC scope cl C X.env) fp) W0 ifs tt)
    (he : ∀ (s : Shared) (H : Hp) (C : Addr) (cl : List (Str × Addr)) (fp : List Addr), PD (X.blk s H scope (compEnvC scope cl C X.env) fp) W0 elt te) (hs : ∀ x, foldedSetIterable iter X.env x = pure x := by intro _; rfl) :
    PDS X W (.Assign [.Name y py] (.ListComp elt [⟨tg, iter, ifs, 0⟩] scope pos) spos) (dSet i (dLcM ti j tt te)) :=
  PSw (ps_setLc hc hN hy hyl hsw hi ok hg ht he hs) fun D σ H ⟨G, M, δ, E, ok, sl, h, eo⟩ => up_lc (W := W) ⟨G, M, δ, _, _, ok, sl, h, fun d M1 v H1 G1 h1 ok1 e1 r1 => eo.nx _ _ _ _ _ h1 ok1 e1 (Slots.set (.yes r1) i (sl.mono e1)), eo.xc⟩
theorem pds_setLc {i j : Nat} {y x : Str} {py : Pos} {elt tg iter : Expr} {ifs : List Expr} {scope : Scope} {pos spos : Pos} {ti : DI} {tt : DT} {te : DE} (hc : X.calm = true) (hN : X.N.Nodup) (hy : X.N[i]? = some y) (hyl : X.env.scope.names.lookup y = some .local)
    (hsw : swapsWith (.ListComp elt [⟨tg, iter, ifs, 0⟩] scope pos) (some (.Name y py)) spos.line X.env = pure true) (hi : PDI X W tg iter ti) (ok : BlkOk X.N X.env.scope scope [(x, j)])
    (hg : ∀ (s : Shared) (H : Hp) (C : Addr) (cl : List (Str × Addr)) (fp : List Addr), PG (X.blk s H scope (compEnvC scope cl C X.env) fp) tg (gName j)) (ht : ∀ (s : Shared) (H : Hp) (C : Addr) (cl : List (Str × Addr)) (fp : List Addr), PDTs (X.blk s H scope (compEnvC scope cl C X.env) fp) W0 ifs tt)
    (he : ∀ (s : Shared) (H : Hp) (C : Addr) (cl : List (Str × Addr)) (fp : List Addr), PD (X.blk s H scope (compEnvC scope cl C X.env) fp) W0 elt te) (hs : ∀ x, foldedSetIterable iter X.env x = pure x := by intro _; rfl) :
    PDS X W (.Assign [.Name y py] (.ListComp elt [⟨tg, iter, ifs, 0⟩] scope pos) spos) (dSet i (dLc ti j tt te)) :=
  PSw (ps_setLc hc hN hy hyl hsw hi ok hg ht he hs) fun D σ H ⟨G, M, δ, E, ok, sl, h, eo⟩ => up_lc (W := W) (up_frz ⟨G, M, δ, _, _, ok, sl, h, fun d M1 v H1 G1 h1 ok1 e1 r1 => eo.nx _ _ _ _ _ h1 ok1 e1 (Slots.set (.yes r1) i (sl.mono e1)), eo.xc⟩)
end

/-! ### d[k] = v -/
def elD : Option MO → (List (Str × D) → Prop) → Prop
  | some (.dic kvs), F => F kvs
  | _, _ => False
theorem elD_of {o : Option MO} {F : List (Str × D) → Prop} (h : elD o F) : ∃ ds, o = some (.dic ds) ∧ F ds := by
  cases o with
  | none => exact h.elim
  | some m => cases m with
    | dic ds => exact ⟨ds, rfl, h⟩
    | lst _ => exact h.elim
    | ins _ _ => exact h.elim
def dput : List (Str × D) → Str → D → List (Str × D)
  | [], k, d => [(k, d)]
  | (k', d') :: r, k, d => if k' = k then (k, d) :: r else (k', d') :: dput r k d
def putDic (x k v : D) (M : Mem) (F : Mem → Prop) : Prop := match x, k with
  | .obj a, .str s => elD (M a) fun kvs => few 99 (kvs.map (·.2)) ∧ (kvs.map (·.1)).Nodup ∧ F (M.set a (.dic (dput kvs s v)))
  | _, _ => False
def dPut (td tk tv : DE) : DSt := fun E δ M => tv δ M (fun v M1 => td δ M1 (fun x M2 => tk δ M2 (fun k M3 => putDic x k v M3 fun M4 => E.nx δ M4) E.xc) E.xc) E.xc
section
variable {X : Cx} {W : WX} {K : PySem.W.Frag} {o i value : Expr} {td tk tv : DE} {pos pos' : Pos}
theorem dput_rel {G : Hp} {s : Str} {d : D} {v : V} (rv : Rep K G v d) : ∀ {ds : List (Str × D)} {kv : List (Key × V)}, kv.map (·.1) = ds.map (fun p => (Sum.inr p.1 : Key)) → RepL K G (kv.map (·.2)) (ds.map (·.2)) → (ds.map (·.1)).Nodup →
    (putK kv (Sum.inr s) v).map (·.1) = (dput ds s d).map (fun p => (Sum.inr p.1 : Key)) ∧ RepL K G ((putK kv (Sum.inr s) v).map (·.2)) ((dput ds s d).map (·.2)) := by
  have nomatch_ : ∀ {ds : List (Str × D)} {kv : List (Key × V)}, kv.map (·.1) = ds.map (fun p => (Sum.inr p.1 : Key)) → s ∉ ds.map (·.1) → valV kv (Sum.inr s) = none := by
    intro ds
    induction ds with
    | nil => intro kv h _; cases kv with
      | nil => rfl
      | cons _ _ => cases h
    | cons p r ih =>
      intro kv h hn
      cases kv with
      | nil => rfl
      | cons q t =>
        simp only [List.map_cons, List.cons.injEq] at h
        simp only [List.map_cons, List.mem_cons, not_or] at hn
        rw [valV_neg (by rw [h.1]; exact fun z => hn.1 (Sum.inr.inj z).symm)]
        exact ih h.2 hn.2
  have mapsame : ∀ {ds : List (Str × D)} {kv : List (Key × V)}, kv.map (·.1) = ds.map (fun p => (Sum.inr p.1 : Key)) → s ∉ ds.map (·.1) → kv.map (fun kv : Key × V => if kv.1 = Sum.inr s then (kv.1, v) else kv) = kv := by
    intro ds
    induction ds with
    | nil => intro kv h _; cases kv with
      | nil => rfl
      | cons _ _ => cases h
    | cons p r ih =>
      intro kv h hn
      cases kv with
      | nil => rfl
      | cons q t =>
        simp only [List.map_cons, List.cons.injEq] at h
        simp only [List.map_cons, List.mem_cons, not_or] at hn
        rw [List.map_cons, if_neg (by rw [h.1]; exact fun z => hn.1 (Sum.inr.inj z).symm), ih h.2 hn.2]
  intro ds
  induction ds with
  | nil =>
    intro kv h r _
    cases kv with
    | nil =>
      have : putK ([] : List (Key × V)) (Sum.inr s) v = [(Sum.inr s, v)] := rfl
      rw [this]
      exact ⟨rfl, .one rv⟩
    | cons _ _ => cases h
  | cons p r ih =>
    intro kv h q nd
    cases kv with
    | nil => cases h
    | cons y t =>
      obtain ⟨k, d'⟩ := p
      obtain ⟨k', v'⟩ := y
      simp only [List.map_cons, List.cons.injEq] at h
      obtain ⟨h1, h2⟩ := h
      subst h1
      have nd' := List.nodup_cons.mp nd
      cases q with
      | cons q1 q2 =>
        unfold dput
        by_cases e : k = s
        · subst e
          rw [if_pos rfl]
          have hp : putK ((Sum.inr k, v') :: t) (Sum.inr k) v = (Sum.inr k, v) :: t := by
            unfold putK
            rw [if_pos (by simp)]
            rw [List.map_cons, if_pos rfl, mapsame h2 nd'.1]
          rw [hp]
          exact ⟨by simp only [List.map_cons]; rw [h2], .cons rv q2⟩
        · rw [if_neg e]
          obtain ⟨i1, i2⟩ := ih h2 q2 nd'.2
          have hp : putK ((Sum.inr k, v') :: t) (Sum.inr s) v = (Sum.inr k, v') :: putK t (Sum.inr s) v := by
            have ne : ¬ (Sum.inr k : Key) = Sum.inr s := fun z => e (Sum.inr.inj z)
            unfold putK
            rw [List.any_cons, decide_eq_false ne, Bool.false_or]
            split
            · rw [List.map_cons, if_neg ne]
            · rfl
          rw [hp]
          exact ⟨by simp only [List.map_cons]; rw [i1], .cons q1 i2⟩
theorem dput_len (ds : List (Str × D)) (s : Str) (d : D) : (dput ds s d).length ≤ ds.length + 1 := by
  induction ds with
  | nil => exact Nat.le_refl _
  | cons p r ih =>
    obtain ⟨k, d'⟩ := p
    unfold dput
    split
    · simp
    · simp only [List.length_cons]; omega
theorem pds_put (hu : X.A.units + 1 < cLine) (ho : PD X W o td) (hi : PD X W i tk) (hv : PD X W value tv) (hs : swapsWith value (some (.Subscript o i pos')) pos.line X.env = pure false := by rfl) :
    PDS X W (.Assign [.Subscript o i pos'] value pos) (dPut td tk tv) :=
  PSw (ps_dput hu ho hi hv hs) fun D σ H ⟨G, M, δ, E, ok, sl, h, eo⟩ => ⟨G, M, δ, _, _, ok, sl, h, fun d M1 v H1 G1 h1 ok1 e1 r1 => ⟨G1, M1, δ, _, _, ok1, sl.mono e1, h1, fun x M2 xv H2 G2 h2 ok2 e2 r2 =>
    ⟨G2, M2, δ, _, _, ok2, (sl.mono e1).mono e2, h2, fun k M3 kv H3 G3 h3 ok3 e3 r3 => by
      unfold putDic at h3
      split at h3
      · obtain ⟨kvs, m, f, nd, h4⟩ := elD_of h3
        obtain ⟨g, kk, hH, k1, q⟩ := ok3.mem _ _ m
        cases r2
        cases r3
        have hl : kk.length = kvs.length := by have := congrArg List.length k1; simpa using this
        have hz := few_le f
        rw [List.length_map] at hz
        obtain ⟨i1, i2⟩ := dput_rel ((r1.mono e2).mono e3) k1 q nd
        exact ⟨_, _, rfl, .inl ⟨kk, .inr _, hH, rfl, small1000 (by omega), rfl⟩, eo.nx _ _ _ _ _ h4 (ok3.write (m := .dic _) g ⟨_, upd_same, i1, i2⟩) (e1.trans (e2.trans e3)) (sl.mono (e1.trans (e2.trans e3)))⟩
      · exact h3.elim, eo.xc.mono (e1.trans e2)⟩, eo.xc.mono e1⟩, eo.xc⟩
end

/-! ### the fields of an instance -/
def elI (C : Addr) : Option MO → (List (Str × D) → Prop) → Prop
  | some (.ins C' fs), F => C' = C ∧ F fs
  | _, _ => False
theorem elI_of {C : Addr} {o : Option MO} {F : List (Str × D) → Prop} (h : elI C o F) : ∃ ds, o = some (.ins C ds) ∧ F ds := by
  cases o with
  | none => exact h.elim
  | some m => cases m with
    | ins C' ds => obtain ⟨e, h⟩ := h; subst e; exact ⟨ds, rfl, h⟩
    | lst _ => exact h.elim
    | dic _ => exact h.elim
def getFld (C : Addr) (f : Str) (x : D) (M : Mem) (Q : QD) : Prop := match x with
  | .obj a => elI C (M a) fun fs => el (look fs f) fun d => Q d M
  | _ => False
def dFld (C : Addr) (f : Str) (t : DE) : DE := fun δ M Q X => t δ M (fun x M1 => getFld C f x M1 Q) X
def setFld (C : Addr) (f : Str) (x v : D) (M : Mem) (F : Mem → Prop) : Prop := match x with
  | .obj a => elI C (M a) fun fs => few 99 (fs.map (·.2)) ∧ F (M.set a (.ins C (dput fs f v)))
  | _ => False
def dFldS (C : Addr) (f : Str) (to tv : DE) : DSt := fun E δ M => tv δ M (fun v M1 => to δ M1 (fun x M2 => setFld C f x v M2 fun M3 => E.nx δ M3) E.xc) E.xc
section
variable {X : Cx} {W : WX} {K : PySem.W.Frag} {o e value : Expr} {te to tv : DE} {pos pos' : Pos} {C : Addr} {f : Str}
theorem look_flds {G : Hp} {x : Str} {d : D} : ∀ {ds : List (Str × D)} {fv : List (Str × V)}, fv.map (·.1) = ds.map (·.1) → RepL K G (fv.map (·.2)) (ds.map (·.2)) → look ds x = some d → ∃ v, fv.lookup x = some v ∧ Rep K G v d
  | [], _, _, _, h => by cases h
  | (k, d') :: r, [], h, _, _ => by cases h
  | (k, d') :: r, (k', v') :: r', h1, h2, h3 => by
    simp only [List.map_cons, List.cons.injEq] at h1
    obtain ⟨e1, h1⟩ := h1
    subst e1
    cases h2 with
    | cons q t =>
      unfold look at h3
      by_cases e : k' = x
      · rw [if_pos e] at h3; cases h3
        exact ⟨v', by subst e; simp [List.lookup], q⟩
      · rw [if_neg e] at h3
        obtain ⟨v, e1, e2⟩ := look_flds h1 t h3
        refine ⟨v, ?_, e2⟩
        have : (x == k') = false := beq_eq_false_iff_ne.mpr (Ne.symm e)
        simp only [List.lookup, this]
        exact e1
theorem look_flds_none {x : Str} : ∀ {ds : List (Str × D)} {fv : List (Str × V)}, fv.map (·.1) = ds.map (·.1) → look ds x = none → fv.lookup x = none
  | [], [], _, _ => rfl
  | [], _ :: _, h, _ => by cases h
  | (k, d') :: r, [], h, _ => by cases h
  | (k, d') :: r, (k', v') :: r', h1, h3 => by
    simp only [List.map_cons, List.cons.injEq] at h1
    obtain ⟨e1, h1⟩ := h1
    subst e1
    unfold look at h3
    by_cases e : k' = x
    · rw [if_pos e] at h3; cases h3
    · rw [if_neg e] at h3
      have : (x == k') = false := beq_eq_false_iff_ne.mpr (Ne.symm e)
      simp only [List.lookup, this]
      exact look_flds_none h1 h3
theorem putF_rel {G : Hp} {s : Str} {d : D} {v : V} (rv : Rep K G v d) : ∀ {ds : List (Str × D)} {fv : List (Str × V)}, fv.map (·.1) = ds.map (·.1) → RepL K G (fv.map (·.2)) (ds.map (·.2)) →
    (putF s v fv).map (·.1) = (dput ds s d).map (·.1) ∧ RepL K G ((putF s v fv).map (·.2)) ((dput ds s d).map (·.2))
  | [], [], _, _ => ⟨rfl, .one rv⟩
  | [], _ :: _, h, _ => by cases h
  | (k, d') :: r, [], h, _ => by cases h
  | (k, d') :: r, (k', v') :: r', h1, h2 => by
    simp only [List.map_cons, List.cons.injEq] at h1
    obtain ⟨e1, h1⟩ := h1
    subst e1
    cases h2 with
    | cons q t =>
      unfold putF dput
      by_cases e : k' = s
      · rw [if_pos e, if_pos e]
        exact ⟨by simp only [List.map_cons]; rw [h1, e], .cons rv t⟩
      · rw [if_neg e, if_neg e]
        obtain ⟨i1, i2⟩ := putF_rel rv h1 t
        exact ⟨by simp only [List.map_cons]; rw [i1], .cons q i2⟩
theorem pd_fld (c : Cls X.K C) (n : NoAttr X.K C f) (he : PD X W e te) (hb : attributeBase e f X.env (eval e X.env) = eval e X.env := by rfl) : PD X W (.Attribute e f pos) (dFld C f te) :=
  PEw (pe_fld he hb) fun σ H Q ⟨G, M, δ, Q', X', ok, sl, h, hq, hx⟩ => ⟨G, M, δ, _, X', ok, sl, h, fun d M1 v H1 G1 h1 ok1 e1 r1 => by
    unfold getFld at h1
    split at h1
    · obtain ⟨fs, m, h2⟩ := elI_of h1
      obtain ⟨d, el, h2⟩ := el_of h2
      obtain ⟨g, dx, fv, hH, k, q⟩ := ok1.mem _ _ m
      cases r1
      obtain ⟨z, ez, rz⟩ := look_flds k q el
      exact ⟨_, C, dx, fv, z, rfl, hH, c, n, ez, hq _ _ _ _ _ h2 ok1 e1 rz⟩
    · exact h1.elim, hx⟩
theorem pds_fld (c : Cls X.K C) (n : NoAttr X.K C f) (ha : PD X W o to) (hv : PD X W value tv) (hs : swapsWith value (some (.Attribute o f pos')) pos.line X.env = pure false := by rfl) : PDS X W (.Assign [.Attribute o f pos'] value pos) (dFldS C f to tv) :=
  PSw (ps_fld ha hv hs) fun D σ H ⟨G, M, δ, E, ok, sl, h, eo⟩ => ⟨G, M, δ, _, _, ok, sl, h, fun d M1 v H1 G1 h1 ok1 e1 r1 => ⟨G1, M1, δ, _, _, ok1, sl.mono e1, h1, fun x M2 xv H2 G2 h2 ok2 e2 r2 => by
      unfold setFld at h2
      split at h2
      · obtain ⟨fs, m, f, h3⟩ := elI_of h2
        obtain ⟨g, dx, fv, hH, k, q⟩ := ok2.mem _ _ m
        cases r2
        have hl : fv.length = fs.length := by have := congrArg List.length k; simpa using this
        have hz := few_le f
        rw [List.length_map] at hz
        obtain ⟨i1, i2⟩ := putF_rel (r1.mono e2) k q
        exact ⟨_, C, dx, fv, rfl, hH, c, n, by omega, eo.nx _ _ _ _ _ h3 (ok2.write (m := .ins C _) g ⟨dx, _, upd_same, i1, i2⟩) (e1.trans e2) (sl.mono (e1.trans e2))⟩
      · exact h2.elim, eo.xc.mono e1⟩, eo.xc⟩
end

/-! ### for, while -/
abbrev DG := D → DS → Mem → (DS → Mem → Prop) → Prop
def upG (K : PySem.W.Frag) (t : DG) : TG := fun v σ H Q => ∃ (G : Hp) (M : Mem) (δ : DS) (d : D) (Q' : DS → Mem → Prop), Ok K H G M ∧ Slots K G σ δ ∧ Rep K G v d ∧ t d δ M Q' ∧ (∀ δ' M' σ' H' G', Q' δ' M' → Ok K H' G' M' → Same G G' → Slots K G' σ' δ' → Q σ' H')
abbrev PDG (X : Cx) (tg : Expr) (t : DG) : Prop := PG X tg (upG X.K t)
theorem PGw {X : Cx} {e : Expr} {t t' : TG} (h : PG X e t) (w : ∀ v σ H Q, t' v σ H Q → t v σ H Q) : PG X e t' := ⟨fun pins s σ H v u Q I r q => h.run pins s σ H v u Q I r (w v σ H Q q)⟩
def dgName (i : Nat) : DG := fun d δ M Q => Q (δ.set i (some d)) M
def two (d : D) (F : D → D → Prop) : Prop := match d with
  | .tup [x, y] => F x y
  | _ => False
def dgPair (i j : Nat) : DG := fun d δ M Q => two d fun x y => Q ((δ.set i (some x)).set j (some y)) M
def forL (g : DG) (tb : DSt) (E : DEnds) : List D → DS → Mem → Prop
  | [], δ, M => E.nx δ M
  | x :: xs, δ, M => g x δ M fun δ2 M2 => tb { E with nx := forL g tb E xs, ct := forL g tb E xs, bk := E.nx } δ2 M2
/-- by what holds between two turns -/
def forI (P : Mem → Prop) (g : DG) (tb : DSt) (E : DEnds) (items : List D) (δ : DS) (M : Mem) : Prop := ∃ Iv : Nat → DS → Mem → Prop, Iv 0 δ M ∧
  (∀ k x δ M, items[k]? = some x → Iv k δ M → P M ∧ g x δ M fun δ2 M2 => tb { E with nx := Iv (k + 1), ct := Iv (k + 1), bk := E.nx } δ2 M2) ∧ ∀ δ M, Iv items.length δ M → P M ∧ E.nx δ M
theorem forI_of {g : DG} {tb : DSt} {E : DEnds} {items : List D} {δ : DS} {M : Mem} (h : forL g tb E items δ M) : forI still g tb E items δ M := by
  refine ⟨fun k δ M => forL g tb E (items.drop k) δ M, h, fun k x δ M hx hk => ⟨trivial, ?_⟩, fun δ M hk => ⟨trivial, ?_⟩⟩
  · obtain ⟨hl, e⟩ := List.getElem?_eq_some_iff.mp hx
    have ed : items.drop k = items[k] :: items.drop (k + 1) := List.drop_eq_getElem_cons hl
    have hk : forL g tb E (items.drop k) δ M := hk
    rw [ed, e] at hk
    exact hk
  · have hk : forL g tb E (items.drop items.length) δ M := hk
    rw [List.drop_length] at hk
    exact hk
def dFor (ti : DI) (g : DG) (tb : DSt) : DSt := fun E δ M => ti δ M (fun items P M1 => forI P g tb E items δ M1) E.xc
def dWhile (c : DT) (tb : DSt) : DSt := fun E δ M => ∃ Iv : Nat → DS → Mem → Prop, (∃ m, Iv m δ M) ∧ ∀ m δ M, Iv m δ M →
  c δ M (fun b M1 => cond b (tb { E with nx := fun δ' M' => ∃ m', m' < m ∧ Iv m' δ' M', ct := fun δ' M' => ∃ m', m' < m ∧ Iv m' δ' M', bk := E.nx } δ M1) (E.nx δ M1)) E.xc
section
variable {X : Cx} {W : WX} {K : PySem.W.Frag} {pos : Pos}
theorem pdg_name {i : Nat} {x : Str} (hN : X.N.Nodup) (hi : X.N[i]? = some x) (hx : Loc X.env.scope x) (hf : X.fn x = true ∨ X.env.scope.names.lookup x = some .local := by first | exact .inl rfl | exact .inr rfl | assumption) : PDG X (.Name x pos) (dgName i) :=
  PGw (pg_name hN hi hx hf) fun v σ H Q ⟨G, M, δ, d, Q', ok, sl, r, h, hq⟩ => hq _ _ _ _ _ h ok (Same.refl _) (Slots.set (.yes r) i sl)
theorem pdg_pair {i j : Nat} {x y : Str} {p1 p2 : Pos} {k : Nat} (hc : X.calm = true) (hN : X.N.Nodup) (hi : X.N[i]? = some x) (hx : Loc X.env.scope x) (hj : X.N[j]? = some y) (hy : Loc X.env.scope y)
    (hn : (assignEach [.Name x p1, .Name y p2] X.env).length = 2 := by rfl) (hst : (assignEach [.Name x p1, .Name y p2] X.env).findIdx? (·.1) = none := by rfl)
    (h1 : (assignEach [.Name x p1, .Name y p2] X.env).map (·.2) = assign (.Name x p1) X.env :: (assignEach [.Name y p2] X.env).map (·.2) := by rfl)
    (h2 : (assignEach [.Name y p2] X.env).map (·.2) = assign (.Name y p2) X.env :: (assignEach [] X.env).map (·.2) := by rfl)
    (hf : X.fn x = true ∨ X.env.scope.names.lookup x = some .local := by first | exact .inl rfl | exact .inr rfl | assumption) (hf2 : X.fn y = true ∨ X.env.scope.names.lookup y = some .local := by first | exact .inl rfl | exact .inr rfl | assumption) : PDG X (.Tuple [.Name x p1, .Name y p2] k pos) (dgPair i j) :=
  PGw (pg_tup hc (pgs_cons (pg_name hN hi hx hf) (pgs_cons (pg_name hN hj hy hf2) pgs_nil h2) h1) hn hst) fun v σ H Q ⟨G, M, δ, d, Q', ok, sl, r, h, hq⟩ => by
    unfold dgPair two at h
    split at h
    · cases r with
      | tup hg q z =>
        cases q with
        | cons q1 q2 => cases q2 with
          | cons q2 q3 =>
            cases q3
            refine ⟨_, _, rfl, SqT.of (ok.sub _ _ hg), rfl, _, _, rfl, _, _, rfl, rfl, ?_⟩
            exact hq _ _ _ _ _ h ok (Same.refl _) (Slots.set (.yes q2) j (Slots.set (.yes q1) i sl))
    · exact h.elim
theorem pds_for {tg iter : Expr} {body : List Stmt} {ti : DI} {g : DG} {tb : DSt} (hp : PassesOwn (model X.prog X.w) X.A X.env X.xe) (hc : X.calm = true) (hi : PDI X W tg iter ti) (hg : PDG X tg g) (hb : PDSs X W body tb)
    (hs : ∀ x, foldedSetIterable iter X.env x = pure x := by intro _; rfl) : PDS X W (.For tg iter body [] pos) (dFor ti g tb) :=
  PSw (ps_for hp hc hi hg hb hs) fun D σ H ⟨G, M, δ, E, ok, sl, h, eo⟩ => ⟨G, M, δ, _, _, ok, sl, h, fun items P M1 J H1 G1 h1 ok1 e1 it hz => by
    obtain ⟨Iv, i0, hst, hend⟩ := h1
    refine ⟨fun k m σ H2 => m = items.length - k ∧ k ≤ items.length ∧ ∃ (G2 : Hp) (M2 : Mem) (δ2 : DS), Ok X.K H2 G2 M2 ∧ Same G1 G2 ∧ Slots X.K G2 σ δ2 ∧ Iv k δ2 M2,
      ⟨items.length, by omega, Nat.zero_le _, G1, M1, δ, ok1, Same.refl _, sl.mono e1, i0⟩, ?_⟩
    rintro k m σ2 H2 ⟨rfl, hk, G2, M2, δ2, ok2, e2, sl2, hl⟩
    by_cases hlt : k < items.length
    · refine .inr ?_
      obtain ⟨hP, hl⟩ := hst k items[k] δ2 M2 (by simp [hlt]) hl
      obtain ⟨st, go⟩ := it k H2 G2 M2 ok2 e2 hP
      obtain ⟨g0, gy⟩ := go items[k] (by simp [hlt])
      refine ⟨g0, fun σ' H' => k + 1 ≤ items.length ∧ ∃ (G2 : Hp) (M2 : Mem) (δ2 : DS), Ok X.K H' G2 M2 ∧ Same G1 G2 ∧ Slots X.K G2 σ' δ2 ∧ Iv (k + 1) δ2 M2, fun σ' H' hn => ⟨items.length - (k + 1), by omega, rfl, hn.1, hn.2⟩, fun x H' y => ?_⟩
      obtain ⟨G3, ok3, e3, r3⟩ := gy x H' y
      refine ⟨G3, M2, δ2, items[k], _, ok3, sl2.mono e3, r3, hl, fun δ4 M4 σ4 H4 G4 h4 ok4 e4 sl4 => ?_⟩
      have ex := e1.trans (e2.trans (e3.trans e4))
      refine ⟨G4, M4, δ4, _, ok4, sl4, h4, ⟨fun δ5 M5 σ5 H5 G5 h5 ok5 e5 sl5 => ⟨hlt, G5, M5, δ5, ok5, e2.trans (e3.trans (e4.trans e5)), sl5, h5⟩, fun d M v H G' h ok s => eo.rt d M v H G' h ok (ex.trans s), fun δ5 M5 σ5 H5 G5 h5 ok5 e5 sl5 => eo.nx _ _ _ _ _ h5 ok5 (ex.trans e5) sl5,
        fun δ5 M5 σ5 H5 G5 h5 ok5 e5 sl5 => ⟨hlt, G5, M5, δ5, ok5, e2.trans (e3.trans (e4.trans e5)), sl5, h5⟩, eo.xc.mono ex⟩⟩
    · have e : k = items.length := by omega
      subst e
      obtain ⟨hP, hl⟩ := hend δ2 M2 hl
      obtain ⟨st, go⟩ := it items.length H2 G2 M2 ok2 e2 hP
      exact .inl ⟨st (Nat.le_refl _), eo.nx _ _ _ _ _ hl ok2 (e1.trans e2) sl2⟩, eo.xc⟩
theorem pds_while {c : Expr} {body : List Stmt} {tc : DT} {tb : DSt} (hp : PassesOwn (model X.prog X.w) X.A X.env X.xe) (hc : PDT X W c tc) (hb : PDSs X W body tb) : PDS X W (.While c body [] pos) (dWhile tc tb) :=
  PSw (ps_while hp hc hb) fun D σ H ⟨G, M, δ, E, ok, sl, ⟨Iv, ⟨m0, h0⟩, hs⟩, eo⟩ => by
    refine ⟨fun m σ H => ∃ (G2 : Hp) (M2 : Mem) (δ2 : DS), Ok X.K H G2 M2 ∧ Same G G2 ∧ Slots X.K G2 σ δ2 ∧ Iv m δ2 M2, ⟨m0, G, M, δ, ok, Same.refl _, sl, h0⟩, ?_⟩
    rintro m σ2 H2 ⟨G2, M2, δ2, ok2, e2, sl2, hi⟩
    refine ⟨G2, M2, δ2, _, _, ok2, sl2, hs m δ2 M2 hi, fun b M3 H3 G3 h3 ok3 e3 => ?_, eo.xc.mono e2⟩
    cases b with
    | false => rw [if_neg Bool.false_ne_true]; exact eo.nx _ _ _ _ _ h3 ok3 (e2.trans e3) (sl2.mono e3)
    | true =>
      rw [if_pos rfl]
      have ex := e2.trans e3
      refine ⟨fun σ' H' => ∃ m', m' < m ∧ ∃ (G2 : Hp) (M2 : Mem) (δ2 : DS), Ok X.K H' G2 M2 ∧ Same G G2 ∧ Slots X.K G2 σ' δ2 ∧ Iv m' δ2 M2, fun σ' H' ⟨m', l, q⟩ => ⟨m', l, q⟩, G3, M3, δ2, _, ok3, sl2.mono e3, h3, ?_⟩
      exact ⟨fun δ5 M5 σ5 H5 G5 ⟨m', l, h5⟩ ok5 e5 sl5 => ⟨m', l, G5, M5, δ5, ok5, ex.trans e5, sl5, h5⟩, fun d M v H G' h ok s => eo.rt d M v H G' h ok (ex.trans s), fun δ5 M5 σ5 H5 G5 h5 ok5 e5 sl5 => eo.nx _ _ _ _ _ h5 ok5 (ex.trans e5) sl5,
        fun δ5 M5 σ5 H5 G5 ⟨m', l, h5⟩ ok5 e5 sl5 => ⟨m', l, G5, M5, δ5, ok5, ex.trans e5, sl5, h5⟩, eo.xc.mono ex⟩
end
end DL

/-! The data layer: defs, calls, raise, try, the law's end -/
namespace DL
open PySem PySem.Spec PyProof.Rows L2

/-! ### promises over data -/
abbrev FDm := List D → Mem → QD → (Addr → Mem → Prop) → Prop
def spD (K : PySem.W.Frag) (m : FDm) : Sp := fun vs H Q E => ∃ (G : Hp) (M : Mem) (ds : List D) (Q' : QD) (X' : Addr → Mem → Prop), Ok K H G M ∧ RepL K G vs ds ∧ m ds M Q' X' ∧
  (∀ d M' v H' G', Q' d M' → Ok K H' G' M' → Same G G' → Rep K G' v d → Q v H') ∧ (∀ cls M' H' G', X' cls M' → Ok K H' G' M' → Same G G' → E (.ref cls) none H')
abbrev FnD (P : Program) (w : World) (K : PySem.W.Frag) (mg : Str → Option Value) (base : Heap) (k : Nat) (f : Addr) (fd : FuncData) (ps : List Str) (m : FDm) : Prop := FnOk P w K mg base (L2.CX P w) k f fd ps (spD K m)
/-- what stands at the end of a def: what may change and is not the caller's is forgotten -/
def retD (Q : QD) : QD := fun d M1 => ∃ M2 : Mem, M2.Sub M1 ∧ Q d M2
def retX (X : Addr → Mem → Prop) : XD := fun cls _ M1 => ∃ M2 : Mem, M2.Sub M1 ∧ X cls M2
def startD : Nat → List D → DS
  | 0, _ => []
  | n + 1, [] => none :: startD n []
  | n + 1, d :: r => some d :: startD n r
abbrev bodyE (Q : QD) (X : Addr → Mem → Prop) : DEnds := { nx := fun _ M1 => retD Q .non M1, rt := retD Q, xc := retX X }
theorem start_slots {K : PySem.W.Frag} {G : Hp} : ∀ {vs : List V} {ds : List D} (n : Nat), RepL K G vs ds → vs.length ≤ n → Slots K G (vs.map some ++ List.replicate (n - vs.length) none) (startD n ds)
  | _, _, 0, .nil, _ => .nil
  | _, _, n + 1, .nil, _ => .cons .no (start_slots n .nil (Nat.zero_le _))
  | _, _, 0, .cons _ _, h => absurd h (by simp)
  | v :: vs, d :: ds, n + 1, .cons r t, h => by
    have e : (n + 1) - (v :: vs).length = n - vs.length := by rw [List.length_cons]; omega
    rw [e]
    exact .cons (.yes r) (start_slots n t (by rw [List.length_cons] at h; omega))
section
variable {P : Program} {w : World} {K : PySem.W.Frag} {mg : Str → Option Value} {base : Heap}
abbrev WE0 (E : XK) : WX := fun c d _ H => E c d H
/-- THE RULE for a def over data -/
theorem okD {x qual : Str} {st : Stmt} {f : Addr} {fd : FuncData} {N ps : List Str} {k : Nat} {m : FDm} {t : DSt} (F : Fun K x qual st f fd) (S : FnScope N ps (defScope st)) (len : ∀ ds M Q X, m ds M Q X → ds.length = ps.length) (hn : ps.length ≤ N.length)
    (der : ∀ (cdv : Value) (A : Around) (outer : List Env) (s : Shared) (H : Hp) (E : XK), Room k (A.deeper (envOfC qual (defScope st) s.heap.objs.size f cdv)) →
      PDSs (cxOf (L2.CX P w) P w K mg base N qual (defScope st) f cdv A outer s H E) (WE0 E) (defBody st) t)
    (read : ∀ ds M Q X, m ds M Q X → t (bodyE Q X) (startD N.length ds) M) : FnD P w K mg base (k + 1) f fd ps m := by
  refine F.okX S (fun vs H Q E ⟨G, M, ds, Q', X', ok, r, h, _, _⟩ => by rw [r.len]; exact len _ _ _ _ h) fun cdv A outer s H vs Q E hr ⟨G, M, ds, Q', X', ok, r, h, hq, hx⟩ => ?_
  refine ⟨_, der cdv A outer s H E hr, G, M, startD N.length ds, _, ok, ?_, read ds M Q' X' h, ?_⟩
  · have hl := r.len
    rw [len _ _ _ _ h] at hl
    exact start_slots N.length r (by rw [hl]; exact hn)
  · refine ⟨fun δ M1 σ H1 G1 ⟨M2, s2, q⟩ ok1 e1 sl1 => hq .non M2 .non H1 G1 q (ok1.weak s2) e1 .non, fun d M1 v H1 G1 ⟨M2, s2, q⟩ ok1 e1 r1 => hq d M2 v H1 G1 q (ok1.weak s2) e1 r1, fun _ _ _ _ _ z => z.elim, fun _ _ _ _ _ z => z.elim, fun cls δ M1 σ H1 G1 ⟨M2, s2, q⟩ ok1 e1 sl1 => hx cls M2 H1 G1 q (ok1.weak s2) e1⟩
end

/-! ### calls of defs -/
def dFn (m : FDm) (t : DA) : DE := fun δ M Q X => t δ M (fun ds M1 => m ds M1 Q fun cls M' => X cls δ M') X
def insIs (C : Addr) (f : Str) (x : D) (M : Mem) : Prop := match x with
  | .obj a => elI C (M a) fun fs => look fs f = none
  | _ => False
def dMth (C : Addr) (f : Str) (m : FDm) (to : DE) (t : DA) : DE := fun δ M Q X => to δ M (fun x M1 => insIs C f x M1 ∧ t δ M1 (fun ds M2 => m (x :: ds) M2 Q fun cls M' => X cls δ M') X) X
def dMk (C : Addr) (m : FDm) (t : DA) : DE := fun δ M Q X => t δ M (fun ds M1 => ∀ x, M1 x = none → m (.obj x :: ds) (M1.set x (.ins C [])) (fun d M2 => isN d = true ∧ Q (.obj x) M2) fun cls M' => X cls δ M') X
section
variable {X : Cx} {W : WX} {CXx : CXT} {k : Nat} {f C : Addr} {fd : FuncData} {ps : List Str} {m : FDm} {sp : Sp} {E : L2.St → XK} {x n : Str} {p pos apos : Pos} {e o : Expr} {es : List Expr} {to : DE} {t : DA}
theorem pd_call (tk : Takes X W) (F : FnD X.prog X.w X.K X.mg X.base k f fd ps m) (hr : Room k X.A) (hg : Gl X x) (hm : X.mg x = some (.ref f)) (hk : PySem.W.keepIn X.K (.ref f) = true) (hb : Binds X.K fd ps [])
    (ha : PDA X W (e :: es) t) (hdb : (x == ("__debug__" : Str)) = false := by decide) (he : starEach (e :: es) X.env = (false, eval e X.env) :: starEach es X.env := by rfl) (hpl : (backTo pos (starEach es X.env)).any (·.1) = false := by rfl) :
    PD X W (.Call (.Name x p) (e :: es) [] pos) (dFn m t) :=
  PEw (pe_callS F hr hg hm hk hb (fun σ => passAt tk σ) ha hdb he hpl) fun σ H Q ⟨G, M, δ, Q', X', ok, sl, h, hq, hx⟩ => ⟨G, M, δ, _, X', ok, sl, h, fun ds M1 vs H1 G1 h1 ok1 e1 r1 =>
    ⟨G1, M1, ds, Q', _, ok1, r1, h1, fun d M2 v H2 G2 h2 ok2 e2 r2 => hq _ _ _ _ _ h2 ok2 (e1.trans e2) r2, fun cls M2 H2 G2 h2 ok2 e2 => hx _ _ _ _ _ _ h2 ok2 (e1.trans e2) (sl.mono (e1.trans e2))⟩, hx⟩
theorem pd_call0 (tk : Takes X W) (F : FnD X.prog X.w X.K X.mg X.base k f fd ps m) (hr : Room k X.A) (hg : Gl X x) (hm : X.mg x = some (.ref f)) (hk : PySem.W.keepIn X.K (.ref f) = true) (hb : Binds X.K fd ps [])
    (hdb : (x == ("__debug__" : Str)) = false := by decide) : PD X W (.Call (.Name x p) [] [] pos) (dFn m dNil) := by
  refine ⟨fun pins s σ H Q I ⟨G, M, δ, Q', X', ok, sl, h, hq, hx⟩ => ?_⟩
  refine wpAny_Call_Name_kw (ld_glob I hg hm ?_ hdb)
  refine PySem.W.callWith_K0 I.kIn hk (run_fnS (E := fun σ => WE W σ) (us := []) F hr hb (passAt tk σ) I .nil ?_)
  exact ⟨G, M, [], Q', _, ok, .nil, h, hq, fun cls M2 H2 G2 h2 ok2 e2 => hx _ _ _ _ _ _ h2 ok2 e2 (sl.mono e2)⟩
/-- o.m(e, ..), what is raised wished for at the slots -/
def tMethX (C : Addr) (m : Str) (sp : Sp) (E : L2.St → XK) (ta : TE) (t : TA) : TE := fun σ H Q => ta σ H fun x H1 => ∃ a dx fs, x = .ref a ∧ H1 a = some (.ins C dx fs) ∧ fs.lookup m = none ∧ t σ H1 fun vs H2 => sp (x :: vs) H2 Q (E σ)
theorem pe_methX {pl : Sem Bool} {ta : TE} {t : TA} (he : PE X o ta) (c : Cls X.K C) (hm : Meth X.K C n f) (F : FnOk X.prog X.w X.K X.mg X.base CXx k f fd ps sp) (hr : Room k X.A) (hb : Binds X.K fd ps []) (hx : ∀ σ, PassesAt CXx X σ (E σ)) (ha : PA X (e :: es) t)
    (hst : starEach (e :: es) X.env = (false, eval e X.env) :: starEach es X.env := by rfl) (hpl : (backTo pos (starEach es X.env)).any (·.1) = false := by rfl)
    (ht : eval (.Call (.Attribute o n apos) (e :: es) [] pos) X.env = (do
      let ov ← eval o X.env
      standAt apos.atName
      let (f, first) ← holding [ov] (getMethod ov n pl)
      callWith pos f first (backTo pos (starEach (e :: es) X.env)) (backToKw pos (keywordEach [] X.env))) := by rfl) :
    PE X (.Call (.Attribute o n apos) (e :: es) [] pos) (tMethX C n sp E ta t) := by
  refine ⟨fun pins s σ H Q I h => ?_⟩
  refine PySem.W.methodCall_KW (pl := pl) (thn (he.run pins s σ H _ I h) fun u s1 ⟨x, H1, I1, rx, a, dx, fs, ex, ea, l, q⟩ => ?_) ht
  subst ex
  obtain rfl : u = Value.ref a := rx
  refine getmeth_ok I1 ea c hm l ?_
  refine PySem.W.callWith_K (first := [.ref a]) (h₀ := X.base) I.ok.mod.kin hm.kp (thn (ha.run pos pins s1 σ H1 _ I1 q) fun us s2 ⟨vs, H2, I2, r, q2⟩ => ⟨I2.kIn, ?_⟩) hst hpl
  exact run_fnS (us := .ref a :: us) (vs := .ref a :: vs) F hr hb (hx σ) I2 (.cons rfl r) q2
theorem pe_methX0 {pl : Sem Bool} {ta : TE} (he : PE X o ta) (c : Cls X.K C) (hm : Meth X.K C n f) (F : FnOk X.prog X.w X.K X.mg X.base CXx k f fd ps sp) (hr : Room k X.A) (hb : Binds X.K fd ps []) (hx : ∀ σ, PassesAt CXx X σ (E σ))
    (ht : eval (.Call (.Attribute o n apos) [] [] pos) X.env = (do
      let ov ← eval o X.env
      standAt apos.atName
      let (f, first) ← holding [ov] (getMethod ov n pl)
      callWith pos f first (backTo pos (starEach [] X.env)) (backToKw pos (keywordEach [] X.env))) := by rfl) :
    PE X (.Call (.Attribute o n apos) [] [] pos) (tMethX C n sp E ta tNil) := by
  refine ⟨fun pins s σ H Q I h => ?_⟩
  refine PySem.W.methodCall_KW (pl := pl) (thn (he.run pins s σ H _ I h) fun u s1 ⟨x, H1, I1, rx, a, dx, fs, ex, ea, l, q⟩ => ?_) ht
  subst ex
  obtain rfl : u = Value.ref a := rx
  refine getmeth_ok I1 ea c hm l ?_
  exact PySem.W.callWith_K0 (first := [.ref a]) I1.kIn hm.kp (run_fnS (us := [.ref a]) (vs := [.ref a]) F hr hb (hx σ) I1 (.cons rfl .nil) q)
theorem ins_of {K : PySem.W.Frag} {H G : Hp} {M : Mem} {v : V} {d : D} (ok : Ok K H G M) (r : Rep K G v d) (h : insIs C n d M) : ∃ a dx fs, v = .ref a ∧ d = .obj a ∧ H a = some (.ins C dx fs) ∧ fs.lookup n = none := by
  unfold insIs at h
  split at h
  · obtain ⟨fs, m, l⟩ := elI_of h
    obtain ⟨g, dx, fv, hH, k, q⟩ := ok.mem _ _ m
    cases r
    exact ⟨_, dx, fv, rfl, rfl, hH, look_flds_none k l⟩
  · exact h.elim
theorem pd_meth {pl : Sem Bool} (tk : Takes X W) (he : PD X W o to) (c : Cls X.K C) (hm : Meth X.K C n f) (F : FnD X.prog X.w X.K X.mg X.base k f fd ps m) (hr : Room k X.A) (hb : Binds X.K fd ps []) (ha : PDA X W (e :: es) t)
    (hst : starEach (e :: es) X.env = (false, eval e X.env) :: starEach es X.env := by rfl) (hpl : (backTo pos (starEach es X.env)).any (·.1) = false := by rfl)
    (ht : eval (.Call (.Attribute o n apos) (e :: es) [] pos) X.env = (do
      let ov ← eval o X.env
      standAt apos.atName
      let (f, first) ← holding [ov] (getMethod ov n pl)
      callWith pos f first (backTo pos (starEach (e :: es) X.env)) (backToKw pos (keywordEach [] X.env))) := by rfl) :
    PD X W (.Call (.Attribute o n apos) (e :: es) [] pos) (dMth C n m to t) :=
  PEw (pe_methX (pl := pl) (E := fun σ => WE W σ) he c hm F hr hb (fun σ => passAt tk σ) ha hst hpl ht) fun σ H Q ⟨G, M, δ, Q', X', ok, sl, h, hq, hx⟩ => ⟨G, M, δ, _, X', ok, sl, h, fun d M1 v H1 G1 h1 ok1 e1 r1 => by
    obtain ⟨hi, h1⟩ := h1
    obtain ⟨a, dx, fs, ev, ed, hH, l⟩ := ins_of ok1 r1 hi
    refine ⟨a, dx, fs, ev, hH, l, G1, M1, δ, _, X', ok1, sl.mono e1, h1, fun ds M2 vs H2 G2 h2 ok2 e2 r2 => ?_, hx.mono e1⟩
    exact ⟨G2, M2, d :: ds, Q', _, ok2, .cons (r1.mono e2) r2, h2, fun d M3 v H3 G3 h3 ok3 e3 r3 => hq _ _ _ _ _ h3 ok3 (e1.trans (e2.trans e3)) r3, fun cls M3 H3 G3 h3 ok3 e3 => hx _ _ _ _ _ _ h3 ok3 (e1.trans (e2.trans e3)) (sl.mono (e1.trans (e2.trans e3)))⟩, hx⟩
theorem pd_meth0 {pl : Sem Bool} (tk : Takes X W) (he : PD X W o to) (c : Cls X.K C) (hm : Meth X.K C n f) (F : FnD X.prog X.w X.K X.mg X.base k f fd ps m) (hr : Room k X.A) (hb : Binds X.K fd ps [])
    (ht : eval (.Call (.Attribute o n apos) [] [] pos) X.env = (do
      let ov ← eval o X.env
      standAt apos.atName
      let (f, first) ← holding [ov] (getMethod ov n pl)
      callWith pos f first (backTo pos (starEach [] X.env)) (backToKw pos (keywordEach [] X.env))) := by rfl) :
    PD X W (.Call (.Attribute o n apos) [] [] pos) (dMth C n m to dNil) :=
  PEw (pe_methX0 (pl := pl) (E := fun σ => WE W σ) he c hm F hr hb (fun σ => passAt tk σ) ht) fun σ H Q ⟨G, M, δ, Q', X', ok, sl, h, hq, hx⟩ => ⟨G, M, δ, _, X', ok, sl, h, fun d M1 v H1 G1 h1 ok1 e1 r1 => by
    obtain ⟨hi, h1⟩ := h1
    obtain ⟨a, dx, fs, ev, ed, hH, l⟩ := ins_of ok1 r1 hi
    refine ⟨a, dx, fs, ev, hH, l, ?_⟩
    exact ⟨G1, M1, [d], Q', _, ok1, .one r1, h1, fun d M3 v H3 G3 h3 ok3 e3 r3 => hq _ _ _ _ _ h3 ok3 (e1.trans e3) r3, fun cls M3 H3 G3 h3 ok3 e3 => hx _ _ _ _ _ _ h3 ok3 (e1.trans e3) (sl.mono (e1.trans e3))⟩, hx⟩
/-- C(e, ..) -/
def tMakeX (C : Addr) (sp : Sp) (E : L2.St → XK) (t : TA) : TE := fun σ H Q => t σ H fun vs H1 => ∀ x dx, H1 x = none → H1 dx = none → dx ≠ x → sp (.ref x :: vs) (upd (upd H1 dx (.own x)) x (.ins C dx [])) (fun v H2 => v = .non ∧ Q (.ref x) H2) (E σ)
theorem pe_makeX {t : TA} (M : Mk X.K C f) (F : FnOk X.prog X.w X.K X.mg X.base CXx k f fd ps sp) (hr : Room (k + 1) X.A) (hg : Gl X x) (hm : X.mg x = some (.ref C)) (hb : Binds X.K fd ps []) (hx : ∀ σ, PassesAt CXx X σ (E σ))
    (ha : PA X (e :: es) t) (hdb : (x == ("__debug__" : Str)) = false := by decide) (he : starEach (e :: es) X.env = (false, eval e X.env) :: starEach es X.env := by rfl) (hpl : (backTo pos (starEach es X.env)).any (·.1) = false := by rfl) :
    PE X (.Call (.Name x p) (e :: es) [] pos) (tMakeX C sp E t) := by
  refine ⟨fun pins s σ H Q I h => ?_⟩
  refine wpAny_Call_Name_kw (ld_glob I hg hm ?_ hdb)
  refine PySem.W.callWith_K (h₀ := X.base) I.ok.mod.kin M.kp (thn (ha.run pos pins s σ H _ I h) fun us s1 ⟨vs, H1, I1, r, q⟩ => ⟨I1.kIn, ?_⟩) he hpl
  have hq := q (s1.heap.objs.size + 1) s1.heap.objs.size (I1.hok.fresh (Nat.le_succ _)) (I1.hok.fresh (Nat.le_refl _)) (Nat.ne_of_lt (Nat.lt_succ_self _))
  have I2 := Inv.made (C := C) I1
  have r2 : Vals (V.ref (s1.heap.objs.size + 1) :: vs) (Value.ref (s1.heap.objs.size + 1) :: us) := .cons rfl r
  have hl : (Value.ref (s1.heap.objs.size + 1) :: us).length = ps.length := by
    have e := r2.length
    rw [F.len _ _ _ _ hq] at e
    exact e.symm
  have b := hb { s1 with heap := (s1.heap.push PySem.W.emptyDict).push (PySem.W.instObj C s1.heap.objs.size) } (Value.ref (s1.heap.objs.size + 1) :: us) I2.kIn (by rw [List.append_nil]; exact hl)
  rw [List.append_nil] at b
  refine wpAny_call (make_map (f := f) I1.kIn M.makes M.init (beq_iff_eq.mp M.fn) (codeAny_mono (F.run _ X.stack _ _ ⟨Value.ref (s1.heap.objs.size + 1) :: us, []⟩ (Value.ref (s1.heap.objs.size + 1) :: us) _ _ (E σ) (hr.make C us [])
    (I2.env0.make C us []) b r2 hq) fun r s' hq' => ?_))
  cases r with
  | error e => exact hx σ pins _ _ e s' I2 hq'
  | ok fl =>
    cases fl with
    | ret u =>
      obtain ⟨v, H', I3, rv, ev, q3⟩ := I2.after hq'
      subst ev
      exact ⟨rv, ⟨V.ref (s1.heap.objs.size + 1), H', I3, rfl, q3⟩⟩
    | next => exact False.elim hq'
    | brk => exact False.elim hq'
    | cont => exact False.elim hq'
theorem pd_make (tk : Takes X W) (Mk' : Mk X.K C f) (F : FnD X.prog X.w X.K X.mg X.base k f fd ps m) (hr : Room (k + 1) X.A) (hg : Gl X x) (hm : X.mg x = some (.ref C)) (hb : Binds X.K fd ps [])
    (ha : PDA X W (e :: es) t) (hdb : (x == ("__debug__" : Str)) = false := by decide) (he : starEach (e :: es) X.env = (false, eval e X.env) :: starEach es X.env := by rfl) (hpl : (backTo pos (starEach es X.env)).any (·.1) = false := by rfl) :
    PD X W (.Call (.Name x p) (e :: es) [] pos) (dMk C m t) :=
  PEw (pe_makeX (E := fun σ => WE W σ) Mk' F hr hg hm hb (fun σ => passAt tk σ) ha hdb he hpl) fun σ H Q ⟨G, M, δ, Q', X', ok, sl, h, hq, hx⟩ => ⟨G, M, δ, _, X', ok, sl, h, fun ds M1 vs H1 G1 h1 ok1 e1 r1 => fun x dx hx0 hd0 hne => by
    have okd := ok1.extra (o := .own x) hd0
    have hx1 : (upd H1 dx (.own x)) x = none := by rw [upd_ne (Ne.symm hne)]; exact hx0
    have gx := okd.gnone hx1
    refine ⟨G1, M1.set x (.ins C []), .obj x :: ds, _, _, okd.write (m := .ins C []) gx ⟨dx, [], upd_same, rfl, .nil⟩, .cons (.obj x) r1, h1 x (ok1.mnone hx0), fun d M2 v H2 G2 h2 ok2 e2 r2 => ?_, fun cls M2 H2 G2 h2 ok2 e2 => hx _ _ _ _ _ _ h2 ok2 (e1.trans e2) (sl.mono (e1.trans e2))⟩
    obtain ⟨hn, h3⟩ := h2
    have ev : v = .non := by
      cases r2 <;> first | rfl | cases hn
    exact ⟨ev, hq _ _ _ _ _ h3 ok2 (e1.trans e2) (.obj x)⟩, hx⟩
end

/-! ### raise, try -/
def dTry (K : PySem.W.Frag) (c : Value) (t u : DSt) : DSt := fun E δ M => t { E with xc := fun cls δ' M' => PySem.W.exmOne K (.ref cls) c = some true ∧ u { E with xc := fun _ _ _ => False } δ' M' } δ M
section
variable {X : Cx} {W : WX} {C : Addr} {x m : Str} {j : Nat} {p p2 pos pos2 np pos' : Pos} {B newId initId : String} {bmB : List Value}
theorem pds_raise (tk : Takes X W) (hc : X.calm = true) (F : ExcBaseFacts B newId initId bmB) (q : PySem.W.excIn X.K C bmB newId = true) (gC : X.mg x = some (.ref C)) (kC : PySem.W.keepIn X.K (.ref C) = true) (r : Raises X (.ref C)) (hg : Gl X x)
    (hdb : (x == ("__debug__" : Str)) = false := by decide) : PDS X W (.Raise (some (.Call (.Name x p) [.Constant (.str m) j p2] [] pos)) none pos2) (dRaise C) :=
  PSw (ps_raise hc tk (pmk_own F q gC kC r hg hdb)) fun D σ H ⟨G, M, δ, E, ok, sl, h, eo⟩ => eo.xc _ _ _ _ _ _ h ok (Same.refl _) sl
theorem pds_try {c : Value} {body suite : List Stmt} {b₀ : Stmt} {t u : DSt} (hs : X.stack = X.env :: X.outer) (hf : X.env.frame = some X.env.locals) (hc : Names X x c) (tk : Takes X W)
    (hb : ∀ (W' : WX) (pn : List (Addr × Obj)) (xe : Value → Shared → Prop), Takes (X.tr pn xe) W' → PassesOwn (model X.prog X.w) X.A X.env xe → PDSs (X.tr pn xe) W' body t)
    (hsu : ∀ (a : Addr) (oe : Obj) (cls : Value) (d : Option Addr) (pn : List (Addr × Obj)), Zc cls d oe → (∃ vs, oe.data = .fields vs) → PDSs (X.suite a ((a, oe) :: pn)) W0 (b₀ :: suite) u) :
    PDS X W (.Try body [.ExceptHandler (some (.Name x np)) none (b₀ :: suite) pos'] [] [] pos) (dTry X.K c t u) :=
  PSw (ps_try_only (tb := fun W' => upS X.K W' t) (ts := fun _ _ _ => upS X.K W0 u) hs hf hc tk hb hsu) fun D σ H ⟨G, M, δ, E, ok, sl, h, eo⟩ =>
    ⟨G, M, δ, _, ok, sl, h, ⟨eo.nx, eo.rt, eo.bk, eo.ct, fun cls δ' M' σ' H' G' ⟨hx, hu⟩ ok' e' sl' => ⟨true, hx, fun _ a ha => ⟨G', M', δ', _, ok', sl', hu, ⟨(eo.mono e').nx, (eo.mono e').rt, (eo.mono e').bk, (eo.mono e').ct, WOk.bot⟩⟩, fun z => nomatch z⟩⟩⟩
end

/-! ### the law's end -/
/-- the law: of a script handed in it gives True -/
def mLaw : FDm := fun ds M Q _ => ∃ ns : List Int, ds = [.scr ns] ∧ ns.length ≤ 63 ∧ ∀ M', Q (.bl true) M'
theorem walkD {l : PySem.W.OpenLaw} {k : Nat} {q : Program} {loose : List Str} {XP : (Str → Option Value) → Heap → Prop} {YP : World → Heap → Prop} {d : DefRec} {K : Params → PySem.W.Frag} {x : Str} (hn : l.most = some 63) (hdf : d.params.defaults = []) (hr : Room k callerA)
    (hY : ∀ (w : World) (h : Heap), YP w h → (K w.params).In h)
    (F : ∀ (w : World) (mg : Str → Option Value) (fa : Addr) (h : Heap), (K w.params).In h → h.Ns mainGlobals mg → mg d.name = some (.ref fa) →
      ∃ fd : FuncData, (∀ (s : Shared) (u : Value), BindsTo s fd ⟨[u], []⟩ [(x, u)]) ∧ ∀ base : Heap, (K w.params).In base → base.Ns mainGlobals mg → FnD l.prog w (K w.params) mg base k fa fd [x] mLaw) :
    PySem.W.WalkO q loose XP YP l.row.toRowW d [] (fun f vs => PySem.call f vs) :=
  L2.walk_of (n := 63) (CX := fun w => L2.CX l.prog w) (sp := fun w => spD (K w.params) mLaw) hn (by rw [sizeLine_eq]; decide) hdf hr hY F (fun w H a ns hl _ hS => ⟨H, fun _ => none, [.scr ns], fun d _ => d = .bl true, fun _ _ => False, ⟨Same.refl _, fun _ _ z => nomatch z⟩, .one (.scr hS), ⟨ns, rfl, hl, fun M' => rfl⟩, fun d M' v H' G' (e : d = .bl true) ok s r => by subst e; cases r; rfl, fun _ _ _ _ z => z.elim⟩) fun w H s e s' z => by
    obtain ⟨_, _, _, _, _, _, _, _, _, _, _, _, z⟩ := z
    exact z.elim
end DL

/-! The data layer: a def by what the program's top has made of it; addresses; small lemmas for readings -/
namespace DL
open PySem PySem.Spec PyProof.Rows L2

section
variable (P : Program) (w : World) (K : PySem.W.Frag) (mg : Str → Option Value) (base : Heap)
def Has (x : Str) (ps : List Str) (k : Nat) (m : FDm) : Prop := ∃ (f : Addr) (fd : FuncData), mg x = some (.ref f) ∧ PySem.W.keepIn K (.ref f) = true ∧ Binds K fd ps [] ∧ FnD P w K mg base k f fd ps m
def HasM (C : Addr) (n : Str) (ps : List Str) (k : Nat) (m : FDm) : Prop := ∃ (f : Addr) (fd : FuncData), Meth K C n f ∧ Binds K fd ps [] ∧ FnD P w K mg base k f fd ps m
def HasI (C : Addr) (ps : List Str) (k : Nat) (m : FDm) : Prop := ∃ (f : Addr) (fd : FuncData), Mk K C f ∧ Binds K fd ps [] ∧ FnD P w K mg base k f fd ps m
end
section
variable {X : Cx} {W : WX} {k : Nat} {C : Addr} {ps : List Str} {m : FDm} {x n : Str} {p pos apos : Pos} {e o : Expr} {es : List Expr} {to : DE} {t : DA}
theorem pd_callH (tk : Takes X W) (F : Has X.prog X.w X.K X.mg X.base x ps k m) (hr : Room k X.A) (hg : Gl X x)
    (ha : PDA X W (e :: es) t) (hdb : (x == ("__debug__" : Str)) = false := by decide) (he : starEach (e :: es) X.env = (false, eval e X.env) :: starEach es X.env := by rfl) (hpl : (backTo pos (starEach es X.env)).any (·.1) = false := by rfl) :
    PD X W (.Call (.Name x p) (e :: es) [] pos) (dFn m t) := let ⟨f, fd, hm, hk, hb, F⟩ := F; pd_call tk F hr hg hm hk hb ha hdb he hpl
theorem pd_call0H (tk : Takes X W) (F : Has X.prog X.w X.K X.mg X.base x ps k m) (hr : Room k X.A) (hg : Gl X x) (hdb : (x == ("__debug__" : Str)) = false := by decide) : PD X W (.Call (.Name x p) [] [] pos) (dFn m dNil) :=
  let ⟨f, fd, hm, hk, hb, F⟩ := F; pd_call0 tk F hr hg hm hk hb hdb
theorem pd_methH {pl : Sem Bool} (tk : Takes X W) (he : PD X W o to) (c : Cls X.K C) (F : HasM X.prog X.w X.K X.mg X.base C n ps k m) (hr : Room k X.A) (ha : PDA X W (e :: es) t)
    (hst : starEach (e :: es) X.env = (false, eval e X.env) :: starEach es X.env := by rfl) (hpl : (backTo pos (starEach es X.env)).any (·.1) = false := by rfl)
    (ht : eval (.Call (.Attribute o n apos) (e :: es) [] pos) X.env = (do
      let ov ← eval o X.env
      standAt apos.atName
      let (f, first) ← holding [ov] (getMethod ov n pl)
      callWith pos f first (backTo pos (starEach (e :: es) X.env)) (backToKw pos (keywordEach [] X.env))) := by rfl) :
    PD X W (.Call (.Attribute o n apos) (e :: es) [] pos) (dMth C n m to t) := let ⟨f, fd, hm, hb, F⟩ := F; pd_meth (pl := pl) tk he c hm F hr hb ha hst hpl ht
theorem pd_meth0H {pl : Sem Bool} (tk : Takes X W) (he : PD X W o to) (c : Cls X.K C) (F : HasM X.prog X.w X.K X.mg X.base C n ps k m) (hr : Room k X.A)
    (ht : eval (.Call (.Attribute o n apos) [] [] pos) X.env = (do
      let ov ← eval o X.env
      standAt apos.atName
      let (f, first) ← holding [ov] (getMethod ov n pl)
      callWith pos f first (backTo pos (starEach [] X.env)) (backToKw pos (keywordEach [] X.env))) := by rfl) :
    PD X W (.Call (.Attribute o n apos) [] [] pos) (dMth C n m to dNil) := let ⟨f, fd, hm, hb, F⟩ := F; pd_meth0 (pl := pl) tk he c hm F hr hb ht
theorem pd_makeH (tk : Takes X W) (F : HasI X.prog X.w X.K X.mg X.base C ps k m) (hr : Room (k + 1) X.A) (hg : Gl X x) (hm : X.mg x = some (.ref C))
    (ha : PDA X W (e :: es) t) (hdb : (x == ("__debug__" : Str)) = false := by decide) (he : starEach (e :: es) X.env = (false, eval e X.env) :: starEach es X.env := by rfl) (hpl : (backTo pos (starEach es X.env)).any (·.1) = false := by rfl) :
    PD X W (.Call (.Name x p) (e :: es) [] pos) (dMk C m t) := let ⟨f, fd, hM, hb, F⟩ := F; pd_make tk hM F hr hg hm hb ha hdb he hpl
/-- a + b, a list that may change -/
def oAddM (x y : D) (M : Mem) (Q : QD) : Prop := match res M x, res M y with
  | .lst a, .lst b => a.length + b.length ≤ sizeLine ∧ ∀ p, M p = none → Q (.obj p) (M.set p (.lst (a ++ b)))
  | _, _ => False
theorem l_addM {K : PySem.W.Frag} : LOp K rCat oAddM := by
  intro x y H G M dx dy Q Q' ok rx ry h hq
  unfold oAddM at h
  split at h
  · rename_i as bs e1 e2
    obtain ⟨p1, v1, f1, h1, q1, z1⟩ := rx.lstOf ok e1
    obtain ⟨p2, v2, f2, h2, q2, z2⟩ := ry.lstOf ok e2
    refine ⟨p1, p2, v1, v2, f1, f2, h1, h2, by rw [q1.len, q2.len]; exact h.1, fun p hp => ?_⟩
    have gp := ok.gnone hp
    exact hq _ _ _ _ _ (h.2 p (ok.mnone hp)) (ok.write (m := .lst _) gp ⟨_, upd_same, q1.append q2, by rw [List.length_append]; exact h.1⟩) (Same.refl _) (.obj p)
  · exact h.elim
theorem pd_addM {a b : Expr} {ta tb : DE} (ha : PD X W a ta) (hb : PD X W b tb) : PD X W (.BinOp a .Add b pos) (dOp oAddM ta tb) := pd_op op_cat l_addM ha hb
end

theorem pd_globE {X : Cx} {W : WX} {x : Str} {v : V} {d : D} {pos : Pos} (hg : Gl X x) (h : ∃ u, X.mg x = some u ∧ RelV v u) (q : ∀ G, Rep X.K G v d) (hd : (x == ("__debug__" : Str)) = false := by decide) : PD X W (.Name x pos) (dC d) :=
  let ⟨_, hm, r⟩ := h; pd_glob hg hm r q hd
/-- where the classes stand -/
structure Adr where
  Room : Addr
  RoomError : Addr
  BadName : Addr
  BadWish : Addr
  BadNumber : Addr
  Known : Addr
  Stranger : Addr
  Outside : Addr
  Inside : Addr
  Reads : Addr
  Writes : Addr
  Asked : Addr
  BadText : Addr
  BadJournal : Addr

/-! readings by what is known: all by definition -/
theorem res_non {M : Mem}  : res M .non = .non := rfl
theorem res_bl {M : Mem} (b : Bool) : res M (.bl b) = (.bl b) := rfl
theorem res_int {M : Mem} (i : Int) : res M (.int i) = (.int i) := rfl
theorem res_str {M : Mem} (z : Str) : res M (.str z) = (.str z) := rfl
theorem res_lst {M : Mem} (xs : List D) : res M (.lst xs) = (.lst xs) := rfl
theorem res_tupE {M : Mem} (xs : List D) : res M (.tup xs) = (.tup xs) := rfl
theorem res_dic {M : Mem} (kvs : List (Str × D)) : res M (.dic kvs) = (.dic kvs) := rfl
theorem res_scr {M : Mem} (ns : List Int) : res M (.scr ns) = (.scr ns) := rfl
theorem res_ty {M : Mem} (n : String) : res M (.ty n) = (.ty n) := rfl
def addR (x y : D) (M : Mem) (Q : QD) : Prop := match x, y with
  | .int i, .int j => Q (.int (i + j)) M
  | .str a, .str b => a.length + b.length ≤ sizeLine ∧ Q (.str (a ++ b)) M
  | .lst a, .lst b => a.length + b.length ≤ sizeLine ∧ Q (.lst (a ++ b)) M
  | .tup a, .tup b => a.length + b.length ≤ sizeLine ∧ Q (.tup (a ++ b)) M
  | _, _ => False
theorem oAdd_eq {x y : D} {M : Mem} {Q : QD} : oAdd x y M Q = addR (res M x) (res M y) M Q := rfl
theorem addR_int {i j : Int} {M : Mem} {Q : QD} : addR (.int i) (.int j) M Q = Q (.int (i + j)) M := rfl
theorem addR_str {a b : Str} {M : Mem} {Q : QD} : addR (.str a) (.str b) M Q = (a.length + b.length ≤ sizeLine ∧ Q (.str (a ++ b)) M) := rfl
theorem addR_lst {a b : List D} {M : Mem} {Q : QD} : addR (.lst a) (.lst b) M Q = (a.length + b.length ≤ sizeLine ∧ Q (.lst (a ++ b)) M) := rfl
theorem addR_tup {a b : List D} {M : Mem} {Q : QD} : addR (.tup a) (.tup b) M Q = (a.length + b.length ≤ sizeLine ∧ Q (.tup (a ++ b)) M) := rfl
def addMR (x y : D) (M : Mem) (Q : QD) : Prop := match x, y with
  | .lst a, .lst b => a.length + b.length ≤ sizeLine ∧ ∀ p, M p = none → Q (.obj p) (M.set p (.lst (a ++ b)))
  | _, _ => False
theorem oAddM_eq {x y : D} {M : Mem} {Q : QD} : oAddM x y M Q = addMR (res M x) (res M y) M Q := rfl
theorem addMR_lst {a b : List D} {M : Mem} {Q : QD} : addMR (.lst a) (.lst b) M Q = (a.length + b.length ≤ sizeLine ∧ ∀ p, M p = none → Q (.obj p) (M.set p (.lst (a ++ b)))) := rfl
def intR (C : Int → Int → Prop) (g : Int → Int → D) (x y : D) (M : Mem) (Q : QD) : Prop := match x, y with
  | .int i, .int j => C i j ∧ Q (g i j) M
  | _, _ => False
def int0R (g : Int → Int → D) (x y : D) (M : Mem) (Q : QD) : Prop := match x, y with
  | .int i, .int j => Q (g i j) M
  | _, _ => False
def negR (x : D) (M : Mem) (Q : QD) : Prop := match x with
  | .int i => Q (.int (-i)) M
  | _ => False
theorem oInt_eq {C : Int → Int → Prop} {g : Int → Int → D} {x y : D} {M : Mem} {Q : QD} : oInt C g x y M Q = intR C g (res M x) (res M y) M Q := rfl
theorem intR_int {C : Int → Int → Prop} {g : Int → Int → D} {i j : Int} {M : Mem} {Q : QD} : intR C g (.int i) (.int j) M Q = (C i j ∧ Q (g i j) M) := rfl
theorem oInt0_eq {g : Int → Int → D} {x y : D} {M : Mem} {Q : QD} : oInt0 g x y M Q = int0R g (res M x) (res M y) M Q := rfl
theorem int0R_int {g : Int → Int → D} {i j : Int} {M : Mem} {Q : QD} : int0R g (.int i) (.int j) M Q = Q (g i j) M := rfl
theorem oNeg_eq {x : D} {M : Mem} {Q : QD} : oNeg x M Q = negR (res M x) M Q := rfl
theorem negR_int {i : Int} {M : Mem} {Q : QD} : negR (.int i) M Q = Q (.int (-i)) M := rfl
def eqR (neg : Bool) (o : Option Bool) (x y : D) (M : Mem) (Q : QD) : Prop := match o with
  | some b => Q (.bl (cond neg (!b) b)) M
  | none => flatN 9 x = true ∧ flatN 9 y = true ∧ Q (.bl (cond neg (!D.eqv x y) (D.eqv x y))) M
theorem oEqN_eq {neg : Bool} {x y : D} {M : Mem} {Q : QD} : oEqN neg x y M Q = eqR neg (eqS x y) (res M x) (res M y) M Q := rfl
theorem eqR_some {neg b : Bool} {x y : D} {M : Mem} {Q : QD} : eqR neg (some b) x y M Q = Q (.bl (cond neg (!b) b)) M := rfl
theorem eqR_none {neg : Bool} {x y : D} {M : Mem} {Q : QD} : eqR neg none x y M Q = (flatN 9 x = true ∧ flatN 9 y = true ∧ Q (.bl (cond neg (!D.eqv x y) (D.eqv x y))) M) := rfl
theorem eqS_non_non  : eqS .non .non = some true := rfl
theorem eqS_non_int {v : Int}  : eqS .non (.int v) = some false := rfl
theorem eqS_non_bl {v : Bool}  : eqS .non (.bl v) = some false := rfl
theorem eqS_non_str {v : Str}  : eqS .non (.str v) = some false := rfl
theorem eqS_non_lst {v : List D}  : eqS .non (.lst v) = none := rfl
theorem eqS_non_tup {v : List D}  : eqS .non (.tup v) = none := rfl
theorem eqS_int_non {u : Int}  : eqS (.int u) .non = some false := rfl
theorem eqS_int_int {u : Int} {v : Int}  : eqS (.int u) (.int v) = some (decide (u = v)) := rfl
theorem eqS_int_bl {u : Int} {v : Bool}  : eqS (.int u) (.bl v) = none := rfl
theorem eqS_int_str {u : Int} {v : Str}  : eqS (.int u) (.str v) = some false := rfl
theorem eqS_int_lst {u : Int} {v : List D}  : eqS (.int u) (.lst v) = none := rfl
theorem eqS_int_tup {u : Int} {v : List D}  : eqS (.int u) (.tup v) = none := rfl
theorem eqS_bl_non {u : Bool}  : eqS (.bl u) .non = some false := rfl
theorem eqS_bl_int {u : Bool} {v : Int}  : eqS (.bl u) (.int v) = none := rfl
theorem eqS_bl_bl {u : Bool} {v : Bool}  : eqS (.bl u) (.bl v) = some (decide (u = v)) := rfl
theorem eqS_bl_str {u : Bool} {v : Str}  : eqS (.bl u) (.str v) = some false := rfl
theorem eqS_bl_lst {u : Bool} {v : List D}  : eqS (.bl u) (.lst v) = none := rfl
theorem eqS_bl_tup {u : Bool} {v : List D}  : eqS (.bl u) (.tup v) = none := rfl
theorem eqS_str_non {u : Str}  : eqS (.str u) .non = some false := rfl
theorem eqS_str_int {u : Str} {v : Int}  : eqS (.str u) (.int v) = some false := rfl
theorem eqS_str_bl {u : Str} {v : Bool}  : eqS (.str u) (.bl v) = some false := rfl
theorem eqS_str_str {u : Str} {v : Str}  : eqS (.str u) (.str v) = some (decide (u = v)) := rfl
theorem eqS_str_lst {u : Str} {v : List D}  : eqS (.str u) (.lst v) = none := rfl
theorem eqS_str_tup {u : Str} {v : List D}  : eqS (.str u) (.tup v) = none := rfl
theorem eqS_lst_non {u : List D}  : eqS (.lst u) .non = none := rfl
theorem eqS_lst_int {u : List D} {v : Int}  : eqS (.lst u) (.int v) = none := rfl
theorem eqS_lst_bl {u : List D} {v : Bool}  : eqS (.lst u) (.bl v) = none := rfl
theorem eqS_lst_str {u : List D} {v : Str}  : eqS (.lst u) (.str v) = none := rfl
theorem eqS_lst_lst {u : List D} {v : List D}  : eqS (.lst u) (.lst v) = none := rfl
theorem eqS_lst_tup {u : List D} {v : List D}  : eqS (.lst u) (.tup v) = none := rfl
theorem eqS_tup_non {u : List D}  : eqS (.tup u) .non = none := rfl
theorem eqS_tup_int {u : List D} {v : Int}  : eqS (.tup u) (.int v) = none := rfl
theorem eqS_tup_bl {u : List D} {v : Bool}  : eqS (.tup u) (.bl v) = none := rfl
theorem eqS_tup_str {u : List D} {v : Str}  : eqS (.tup u) (.str v) = none := rfl
theorem eqS_tup_lst {u : List D} {v : List D}  : eqS (.tup u) (.lst v) = none := rfl
theorem eqS_tup_tup {u : List D} {v : List D}  : eqS (.tup u) (.tup v) = none := rfl
theorem eqS_obj_non {a : Addr}  : eqS (.obj a) .non = none := rfl
theorem eqS_non_obj {a : Addr}  : eqS .non (.obj a) = none := rfl
theorem eqS_obj_int {a : Addr} {v : Int}  : eqS (.obj a) (.int v) = none := rfl
theorem eqS_int_obj {a : Addr} {v : Int}  : eqS (.int v) (.obj a) = none := rfl
theorem eqS_obj_bl {a : Addr} {v : Bool}  : eqS (.obj a) (.bl v) = none := rfl
theorem eqS_bl_obj {a : Addr} {v : Bool}  : eqS (.bl v) (.obj a) = none := rfl
theorem eqS_obj_str {a : Addr} {v : Str}  : eqS (.obj a) (.str v) = none := rfl
theorem eqS_str_obj {a : Addr} {v : Str}  : eqS (.str v) (.obj a) = none := rfl
theorem eqS_obj_lst {a : Addr} {v : List D}  : eqS (.obj a) (.lst v) = none := rfl
theorem eqS_lst_obj {a : Addr} {v : List D}  : eqS (.lst v) (.obj a) = none := rfl
theorem eqS_obj_tup {a : Addr} {v : List D}  : eqS (.obj a) (.tup v) = none := rfl
theorem eqS_tup_obj {a : Addr} {v : List D}  : eqS (.tup v) (.obj a) = none := rfl
theorem eqS_obj_obj {a b : Addr} : eqS (.obj a) (.obj b) = none := rfl
def inR (neg : Bool) (x y : D) (M : Mem) (Q : QD) : Prop := match y with
  | .lst ds => flatD x = true ∧ ds.all flatD = true ∧ Q (.bl (cond neg (!inD x ds) (inD x ds))) M
  | .tup ds => flatD x = true ∧ ds.all flatD = true ∧ Q (.bl (cond neg (!inD x ds) (inD x ds))) M
  | .str z => (match x with
    | .str ⟨⟨[c]⟩⟩ => Q (.bl (cond neg (!decide (c ∈ z.cps.toList)) (decide (c ∈ z.cps.toList)))) M
    | _ => False)
  | _ => False
theorem oInN_eq {neg : Bool} {x y : D} {M : Mem} {Q : QD} : oInN neg x y M Q = inR neg x (res M y) M Q := rfl
theorem inR_lst {neg : Bool} {x : D} {ds : List D} {M : Mem} {Q : QD} : inR neg x (.lst ds) M Q = (flatD x = true ∧ ds.all flatD = true ∧ Q (.bl (cond neg (!inD x ds) (inD x ds))) M) := rfl
theorem inR_tup {neg : Bool} {x : D} {ds : List D} {M : Mem} {Q : QD} : inR neg x (.tup ds) M Q = (flatD x = true ∧ ds.all flatD = true ∧ Q (.bl (cond neg (!inD x ds) (inD x ds))) M) := rfl
theorem inR_str {neg : Bool} {c : Nat} {z : Str} {M : Mem} {Q : QD} : inR neg (.str ⟨#[c]⟩) (.str z) M Q = Q (.bl (cond neg (!decide (c ∈ z.cps.toList)) (decide (c ∈ z.cps.toList)))) M := rfl
theorem flatD_non  : flatD .non = true := rfl
theorem flatD_bl (b : Bool) : flatD (.bl b) = true := rfl
theorem flatD_int (i : Int) : flatD (.int i) = true := rfl
theorem flatD_str (z : Str) : flatD (.str z) = true := rfl
theorem asB_bl {b : Bool} {M : Mem} {Q : Bool → Mem → Prop} : asB (.bl b) M Q = Q b M := rfl
theorem isN_non  : isN .non = true := rfl
theorem isN_bl (b : Bool) : isN (.bl b) = false := rfl
theorem isN_int (i : Int) : isN (.int i) = false := rfl
theorem isN_str (z : Str) : isN (.str z) = false := rfl
theorem isN_lst (xs : List D) : isN (.lst xs) = false := rfl
theorem isN_tup (xs : List D) : isN (.tup xs) = false := rfl
theorem isN_dic (kvs : List (Str × D)) : isN (.dic kvs) = false := rfl
theorem isN_scr (ns : List Int) : isN (.scr ns) = false := rfl
theorem isN_ty (n : String) : isN (.ty n) = false := rfl
theorem isN_obj (a : Addr) : isN (.obj a) = false := rfl
def frzR (r d : D) (M : Mem) (Q : QD) : Prop := match r, d with
  | .lst ds, .obj a => Q (.lst ds) (M.del a)
  | .dic kvs, .obj a => Q (.dic kvs) (M.del a)
  | _, .obj _ => False
  | _, d => Q d M
theorem frz_obj {a : Addr} {M : Mem} {Q : QD} : frz (.obj a) M Q = frzR (res M (.obj a)) (.obj a) M Q := rfl
theorem frzR_lst {a : Addr} {ds : List D} {M : Mem} {Q : QD} : frzR (.lst ds) (.obj a) M Q = Q (.lst ds) (M.del a) := rfl
theorem frzR_dic {a : Addr} {ds : List (Str × D)} {M : Mem} {Q : QD} : frzR (.dic ds) (.obj a) M Q = Q (.dic ds) (M.del a) := rfl
theorem frz_non  {M : Mem} {Q : QD} : frz .non M Q = Q .non M := rfl
theorem frz_bl (b : Bool) {M : Mem} {Q : QD} : frz (.bl b) M Q = Q (.bl b) M := rfl
theorem frz_int (i : Int) {M : Mem} {Q : QD} : frz (.int i) M Q = Q (.int i) M := rfl
theorem frz_str (z : Str) {M : Mem} {Q : QD} : frz (.str z) M Q = Q (.str z) M := rfl
theorem frz_lst (xs : List D) {M : Mem} {Q : QD} : frz (.lst xs) M Q = Q (.lst xs) M := rfl
theorem frz_tup (xs : List D) {M : Mem} {Q : QD} : frz (.tup xs) M Q = Q (.tup xs) M := rfl
theorem frz_dic (kvs : List (Str × D)) {M : Mem} {Q : QD} : frz (.dic kvs) M Q = Q (.dic kvs) M := rfl
theorem frz_scr (ns : List Int) {M : Mem} {Q : QD} : frz (.scr ns) M Q = Q (.scr ns) M := rfl
theorem frz_ty (n : String) {M : Mem} {Q : QD} : frz (.ty n) M Q = Q (.ty n) M := rfl
def ixR (x y : D) (M : Mem) (Q : QD) : Prop := match x, y with
  | .lst ds, .int i => el (nth ds i) fun d => Q d M
  | .tup ds, .int i => el (nth ds i) fun d => Q d M
  | .scr ns, .int i => el (nth ns i) fun n => Q (.int n) M
  | .str z, .int i => el (nth z.cps.toList i) fun c => Q (.str ⟨#[c]⟩) M
  | .dic kvs, .str k => el (look kvs k) fun d => Q d M
  | _, _ => False
theorem oIx_eq {x y : D} {M : Mem} {Q : QD} : oIx x y M Q = ixR (res M x) y M Q := rfl
theorem ixR_lst {ds : List D} {i : Int} {M : Mem} {Q : QD} : ixR (.lst ds) (.int i) M Q = el (nth ds i) fun d => Q d M := rfl
theorem ixR_tup {ds : List D} {i : Int} {M : Mem} {Q : QD} : ixR (.tup ds) (.int i) M Q = el (nth ds i) fun d => Q d M := rfl
theorem ixR_scr {ns : List Int} {i : Int} {M : Mem} {Q : QD} : ixR (.scr ns) (.int i) M Q = el (nth ns i) fun n => Q (.int n) M := rfl
theorem ixR_str {z : Str} {i : Int} {M : Mem} {Q : QD} : ixR (.str z) (.int i) M Q = el (nth z.cps.toList i) fun c => Q (.str ⟨#[c]⟩) M := rfl
theorem ixR_dic {kvs : List (Str × D)} {k : Str} {M : Mem} {Q : QD} : ixR (.dic kvs) (.str k) M Q = el (look kvs k) fun d => Q d M := rfl
theorem nth_0 {α : Type} {x0 : α} {r : List α} : nth (x0 :: r) 0 = some x0 := rfl
theorem nth_1 {α : Type} {x0 x1 : α} {r : List α} : nth (x0 :: x1 :: r) 1 = some x1 := rfl
theorem nth_2 {α : Type} {x0 x1 x2 : α} {r : List α} : nth (x0 :: x1 :: x2 :: r) 2 = some x2 := rfl
theorem nth_3 {α : Type} {x0 x1 x2 x3 : α} {r : List α} : nth (x0 :: x1 :: x2 :: x3 :: r) 3 = some x3 := rfl
def slR (x : D) (lo hi : Option Int) (M : Mem) (Q : QD) : Prop := match x with
  | .lst ds => Q (.lst (dcut ds lo hi)) M
  | .tup ds => Q (.tup (dcut ds lo hi)) M
  | .str z => Q (.str (cutS z lo hi)) M
  | _ => False
theorem oSl_eq {x : D} {lo hi : Option Int} {M : Mem} {Q : QD} : oSl x lo hi M Q = slR (res M x) lo hi M Q := rfl
theorem slR_lst {ds : List D} {lo hi : Option Int} {M : Mem} {Q : QD} : slR (.lst ds) lo hi M Q = Q (.lst (dcut ds lo hi)) M := rfl
theorem slR_tup {ds : List D} {lo hi : Option Int} {M : Mem} {Q : QD} : slR (.tup ds) lo hi M Q = Q (.tup (dcut ds lo hi)) M := rfl
theorem slR_str {z : Str} {lo hi : Option Int} {M : Mem} {Q : QD} : slR (.str z) lo hi M Q = Q (.str (cutS z lo hi)) M := rfl
def partR (d : D) (M : Mem) (Q : Option Int → Mem → Prop) : Prop := match d with
  | .int i => Q (some i) M
  | _ => False
theorem dPart_eq {t : DE} {δ : DS} {M : Mem} {Q : Option Int → Mem → Prop} {X : XD} : dPart t δ M Q X = t δ M (fun d M1 => partR d M1 Q) X := rfl
theorem partR_int {i : Int} {M : Mem} {Q : Option Int → Mem → Prop} : partR (.int i) M Q = Q (some i) M := rfl
theorem on1_cons {F : D → Mem → QD → Prop} {d : D} {M : Mem} {Q : QD} : on1 F [d] M Q = F (res M d) M Q := rfl
theorem on2_cons {F : D → D → Mem → QD → Prop} {d e : D} {M : Mem} {Q : QD} : on2 F [d, e] M Q = F (res M d) (res M e) M Q := rfl
theorem lenD_lst {xs : List D} {M : Mem} {Q : QD} : lenD (.lst xs) M Q = Q (.int xs.length) M := rfl
theorem lenD_tup {xs : List D} {M : Mem} {Q : QD} : lenD (.tup xs) M Q = Q (.int xs.length) M := rfl
theorem lenD_scr {xs : List Int} {M : Mem} {Q : QD} : lenD (.scr xs) M Q = Q (.int xs.length) M := rfl
theorem lenD_str {z : Str} {M : Mem} {Q : QD} : lenD (.str z) M Q = Q (.int z.length) M := rfl
theorem intD_int {i : Int} {M : Mem} {Q : QD} : DL.intD (.int i) M Q = Q (.int i) M := rfl
theorem intD_bl {k : Bool} {M : Mem} {Q : QD} : DL.intD (.bl k) M Q = Q (.int (cond k 1 0)) M := rfl
theorem strD_int {i : Int} {M : Mem} {Q : QD} : strD (.int i) M Q = (0 ≤ i ∧ i < 1000000000 ∧ Q (.str (toString i)) M) := rfl
theorem int2_int {g : Int → Int → Int} {i j : Int} {M : Mem} {Q : QD} : int2 g (.int i) (.int j) M Q = Q (.int (g i j)) M := rfl
theorem listM_lst {ds : List D} {M : Mem} {Q : QD} : listM (.lst ds) M Q = ∀ p, M p = none → Q (.obj p) (M.set p (.lst ds)) := rfl
theorem listF_lst {ds : List D} {M : Mem} {Q : QD} : listF (.lst ds) M Q = Q (.lst ds) M := rfl
theorem listM_tup {ds : List D} {M : Mem} {Q : QD} : listM (.tup ds) M Q = ∀ p, M p = none → Q (.obj p) (M.set p (.lst ds)) := rfl
theorem listF_tup {ds : List D} {M : Mem} {Q : QD} : listF (.tup ds) M Q = Q (.lst ds) M := rfl
theorem dictM_dic {kvs : List (Str × D)} {M : Mem} {Q : QD} : dictM (.dic kvs) M Q = ∀ p, M p = none → Q (.obj p) (M.set p (.dic kvs)) := rfl
theorem isiD_ty {d : D} {n : String} {M : Mem} {Q : QD} : isiD d (.ty n) M Q = el (isB n d) fun b => Q (.bl b) M := rfl
theorem oAppend_obj {a : Addr} {d : D} {M : Mem} {Q : QD} : oAppend (.obj a) [d] M Q = elL (M a) fun xs => xs.length < sizeLine ∧ Q .non (M.set a (.lst (xs ++ [d]))) := rfl
theorem oInsert_obj {a : Addr} {i : Int} {d : D} {M : Mem} {Q : QD} : oInsert (.obj a) [.int i, d] M Q = elL (M a) fun xs => xs.length < sizeLine ∧ 0 ≤ i ∧ i < 2 ^ 63 ∧ Q .non (M.set a (.lst (xs.take i.toNat ++ [d] ++ xs.drop i.toNat))) := rfl
theorem oPop_obj {a : Addr} {M : Mem} {Q : QD} : oPop (.obj a) [] M Q = elL (M a) fun xs => el xs[xs.length - 1]? fun d => Q d (M.set a (.lst xs.dropLast)) := rfl
theorem oPopAt_obj {a : Addr} {i : Int} {M : Mem} {Q : QD} : oPopAt (.obj a) [.int i] M Q = elL (M a) fun xs => 0 ≤ i ∧ i < 2 ^ 62 ∧ el xs[i.toNat]? fun d => Q d (M.set a (.lst (xs.eraseIdx i.toNat))) := rfl
def isLstR (d : D) : Prop := match d with
  | .lst _ => True
  | _ => False
theorem isLst_eq {d : D} {M : Mem} : isLst d M = isLstR (res M d) := rfl
theorem isLstR_lst {ds : List D} : isLstR (.lst ds) = True := rfl
theorem isStr_str {z : Str} {M : Mem} : isStr (.str z) M = True := rfl
theorem oSplit_str {a b : Str} {M : Mem} {Q : QD} : oSplit (.str a) [.str b] M Q = ((b.length == 0) = false ∧ a.length + 2 ≤ sizeLine ∧ (Txt.split a b).length ≤ sizeLine ∧ (∀ z ∈ Txt.split a b, strOk z = true) ∧ Q (.lst ((Txt.split a b).map .str)) M) := rfl
theorem oJoin_str {a : Str} {d : D} {M : Mem} {Q : QD} : oJoin (.str a) [d] M Q = ∃ ys : List Str, (res M d = .lst (ys.map .str) ∨ res M d = .tup (ys.map .str)) ∧ (ys.map (·.length)).sum + ys.length * a.length ≤ 16777216 ∧ strOk (Txt.join a ys) = true ∧ Q (.str (Txt.join a ys)) M := rfl
theorem itemsOf_lst {ds : List D} {M : Mem} {F : List D → (Mem → Prop) → Prop} : itemsOf (.lst ds) M F = F ds still := rfl
theorem itemsOf_tup {ds : List D} {M : Mem} {F : List D → (Mem → Prop) → Prop} : itemsOf (.tup ds) M F = F ds still := rfl
theorem itemsOf_str {z : Str} {M : Mem} {F : List D → (Mem → Prop) → Prop} : itemsOf (.str z) M F = F (signsD z) still := rfl
theorem itemsOf_obj {a : Addr} {M : Mem} {F : List D → (Mem → Prop) → Prop} : itemsOf (.obj a) M F = elL (M a) fun ds => F ds fun M' => M' a = some (.lst ds) := rfl
theorem rng1_int {j : Int} {F : List D → (Mem → Prop) → Prop} : rng1 [.int j] F = (-1000000 ≤ j ∧ j ≤ 1000000 ∧ F (rangeD 0 j.toNat) still) := rfl
theorem enumOf_lst {ds : List D} {M : Mem} {F : List D → (Mem → Prop) → Prop} : enumOf [.lst ds] M F = F (enumD 0 ds) still := rfl
theorem enumOf_obj {a : Addr} {M : Mem} {F : List D → (Mem → Prop) → Prop} : enumOf [.obj a] M F = elL (M a) fun xs => F (enumD 0 xs) fun M' => M' a = some (.lst xs) := rfl
theorem all_still {p : Prop} : ((∀ M, still M) ∧ p) = p := by simp
theorem two_tup {x y : D} {F : D → D → Prop} : two (.tup [x, y]) F = F x y := rfl
theorem insIs_obj {C a : Addr} {f : Str} {M : Mem} : insIs C f (.obj a) M = elI C (M a) fun fs => look fs f = none := rfl
theorem getFld_obj {C a : Addr} {f : Str} {M : Mem} {Q : QD} : getFld C f (.obj a) M Q = elI C (M a) fun fs => el (look fs f) fun d => Q d M := rfl
theorem setFld_obj {C a : Addr} {f : Str} {v : D} {M : Mem} {F : Mem → Prop} : setFld C f (.obj a) v M F = elI C (M a) fun fs => few 99 (fs.map (·.2)) ∧ F (M.set a (.ins C (dput fs f v))) := rfl
theorem putDic_obj {a : Addr} {s : Str} {v : D} {M : Mem} {F : Mem → Prop} : putDic (.obj a) (.str s) v M F = elD (M a) fun kvs => few 99 (kvs.map (·.2)) ∧ (kvs.map (·.1)).Nodup ∧ F (M.set a (.dic (dput kvs s v))) := rfl
/-! isinstance of data: a table -/
theorem isB_str_non : isB "str" (.non) = some false := (by decide +kernel : kitB "NoneType" "str" = some false)
theorem isB_str_bl (b : Bool) : isB "str" (.bl b) = some false := (by decide +kernel : kitB "bool" "str" = some false)
theorem isB_str_int (b : Int) : isB "str" (.int b) = some false := (by decide +kernel : kitB "int" "str" = some false)
theorem isB_str_str (b : Str) : isB "str" (.str b) = some true := (by decide +kernel : kitB "str" "str" = some true)
theorem isB_str_lst (b : List D) : isB "str" (.lst b) = some false := (by decide +kernel : kitB "list" "str" = some false)
theorem isB_str_tup (b : List D) : isB "str" (.tup b) = some false := (by decide +kernel : kitB "tuple" "str" = some false)
theorem isB_str_dic (b : List (Str × D)) : isB "str" (.dic b) = some false := (by decide +kernel : kitB "dict" "str" = some false)
theorem isB_int_non : isB "int" (.non) = some false := (by decide +kernel : kitB "NoneType" "int" = some false)
theorem isB_int_bl (b : Bool) : isB "int" (.bl b) = some true := (by decide +kernel : kitB "bool" "int" = some true)
theorem isB_int_int (b : Int) : isB "int" (.int b) = some true := (by decide +kernel : kitB "int" "int" = some true)
theorem isB_int_str (b : Str) : isB "int" (.str b) = some false := (by decide +kernel : kitB "str" "int" = some false)
theorem isB_int_lst (b : List D) : isB "int" (.lst b) = some false := (by decide +kernel : kitB "list" "int" = some false)
theorem isB_int_tup (b : List D) : isB "int" (.tup b) = some false := (by decide +kernel : kitB "tuple" "int" = some false)
theorem isB_int_dic (b : List (Str × D)) : isB "int" (.dic b) = some false := (by decide +kernel : kitB "dict" "int" = some false)
theorem isB_bool_non : isB "bool" (.non) = some false := (by decide +kernel : kitB "NoneType" "bool" = some false)
theorem isB_bool_bl (b : Bool) : isB "bool" (.bl b) = some true := (by decide +kernel : kitB "bool" "bool" = some true)
theorem isB_bool_int (b : Int) : isB "bool" (.int b) = some false := (by decide +kernel : kitB "int" "bool" = some false)
theorem isB_bool_str (b : Str) : isB "bool" (.str b) = some false := (by decide +kernel : kitB "str" "bool" = some false)
theorem isB_bool_lst (b : List D) : isB "bool" (.lst b) = some false := (by decide +kernel : kitB "list" "bool" = some false)
theorem isB_bool_tup (b : List D) : isB "bool" (.tup b) = some false := (by decide +kernel : kitB "tuple" "bool" = some false)
theorem isB_bool_dic (b : List (Str × D)) : isB "bool" (.dic b) = some false := (by decide +kernel : kitB "dict" "bool" = some false)
theorem isB_list_non : isB "list" (.non) = some false := (by decide +kernel : kitB "NoneType" "list" = some false)
theorem isB_list_bl (b : Bool) : isB "list" (.bl b) = some false := (by decide +kernel : kitB "bool" "list" = some false)
theorem isB_list_int (b : Int) : isB "list" (.int b) = some false := (by decide +kernel : kitB "int" "list" = some false)
theorem isB_list_str (b : Str) : isB "list" (.str b) = some false := (by decide +kernel : kitB "str" "list" = some false)
theorem isB_list_lst (b : List D) : isB "list" (.lst b) = some true := (by decide +kernel : kitB "list" "list" = some true)
theorem isB_list_tup (b : List D) : isB "list" (.tup b) = some false := (by decide +kernel : kitB "tuple" "list" = some false)
theorem isB_list_dic (b : List (Str × D)) : isB "list" (.dic b) = some false := (by decide +kernel : kitB "dict" "list" = some false)
theorem isB_tuple_non : isB "tuple" (.non) = some false := (by decide +kernel : kitB "NoneType" "tuple" = some false)
theorem isB_tuple_bl (b : Bool) : isB "tuple" (.bl b) = some false := (by decide +kernel : kitB "bool" "tuple" = some false)
theorem isB_tuple_int (b : Int) : isB "tuple" (.int b) = some false := (by decide +kernel : kitB "int" "tuple" = some false)
theorem isB_tuple_str (b : Str) : isB "tuple" (.str b) = some false := (by decide +kernel : kitB "str" "tuple" = some false)
theorem isB_tuple_lst (b : List D) : isB "tuple" (.lst b) = some false := (by decide +kernel : kitB "list" "tuple" = some false)
theorem isB_tuple_tup (b : List D) : isB "tuple" (.tup b) = some true := (by decide +kernel : kitB "tuple" "tuple" = some true)
theorem isB_tuple_dic (b : List (Str × D)) : isB "tuple" (.dic b) = some false := (by decide +kernel : kitB "dict" "tuple" = some false)
theorem el_some {α : Type} (d : α) (F : α → Prop) : el (some d) F = F d := rfl
theorem elL_lst (ds : List D) (F : List D → Prop) : elL (some (.lst ds)) F = F ds := rfl
theorem elD_dic (ds : List (Str × D)) (F : List (Str × D) → Prop) : elD (some (.dic ds)) F = F ds := rfl
theorem elI_ins (C : Addr) (ds : List (Str × D)) (F : List (Str × D) → Prop) : elI C (some (.ins C ds)) F = F ds := propext ⟨fun h => h.2, fun h => ⟨rfl, h⟩⟩
theorem frz_set_lst {p : Addr} {M : Mem} {ds : List D} {Q : QD} : frz (.obj p) (M.set p (.lst ds)) Q = Q (.lst ds) ((M.set p (.lst ds)).del p) := by
  rw [frz_obj]
  have : res (M.set p (.lst ds)) (.obj p) = .lst ds := by
    show resO p _ = _
    rw [Mem.set_same]; rfl
  rw [this]
  rfl
theorem frz_set_dic {p : Addr} {M : Mem} {ds : List (Str × D)} {Q : QD} : frz (.obj p) (M.set p (.dic ds)) Q = Q (.dic ds) ((M.set p (.dic ds)).del p) := by
  rw [frz_obj]
  have : res (M.set p (.dic ds)) (.obj p) = .dic ds := by
    show resO p _ = _
    rw [Mem.set_same]; rfl
  rw [this]
  rfl
/-- a comprehension whose parts only read, frozen -/
theorem lc_pure {i : Nat} {tt : DT} {te : DE} {δ : DS} {M : Mem} {P : Mem → Prop} {Q : QD} {items : List D} (p : D → Bool) (f : D → D)
    (h1 : ∀ x, x ∈ items → ∀ M', M.Sub M' → ∀ Qb : Bool → Mem → Prop, Qb (p x) M' → tt (δ.set i (some x)) M' Qb fun _ _ _ => False)
    (h2 : ∀ x, x ∈ items → p x = true → ∀ M', M.Sub M' → ∀ Qd : QD, Qd (f x) M' → te (δ.set i (some x)) M' Qd fun _ _ _ => False)
    (h : Q (.lst ((items.filter p).map f)) M) (hP : ∀ M', M.Sub M' → P M' := by exact fun _ _ => trivial) : ∀ D0, M D0 = none → lcL D0 i tt te δ P (fun M2 => frz (.obj D0) M2 Q) items [] (M.set D0 (.lst [])) := fun D0 hD => by
  refine lcL_pure hD hP p f h1 h2 ?_
  rw [frz_set_lst, Mem.del_set hD, List.nil_append]
  exact h
/-- without a test -/
theorem lc_map {i : Nat} {te : DE} {δ : DS} {M : Mem} {P : Mem → Prop} {Q : QD} {items : List D} (f : D → D)
    (h2 : ∀ x, x ∈ items → ∀ M', M.Sub M' → ∀ Qd : QD, Qd (f x) M' → te (δ.set i (some x)) M' Qd fun _ _ _ => False)
    (h : Q (.lst (items.map f)) M) (hP : ∀ M', M.Sub M' → P M' := by exact fun _ _ => trivial) : ∀ D0, M D0 = none → lcL D0 i dYes te δ P (fun M2 => frz (.obj D0) M2 Q) items [] (M.set D0 (.lst [])) := by
  refine lc_pure (fun _ => true) f (fun x _ M' _ Qb q => q) (fun x hx _ => h2 x hx) ?_ hP
  rw [List.filter_eq_self.mpr (fun _ _ => rfl)]
  exact h
/-- a comprehension that makes a list which may change -/
theorem lcm_pure {i : Nat} {tt : DT} {te : DE} {δ : DS} {M : Mem} {P : Mem → Prop} {Q : QD} {items : List D} (p : D → Bool) (f : D → D)
    (h1 : ∀ x, x ∈ items → ∀ M', M.Sub M' → ∀ Qb : Bool → Mem → Prop, Qb (p x) M' → tt (δ.set i (some x)) M' Qb fun _ _ _ => False)
    (h2 : ∀ x, x ∈ items → p x = true → ∀ M', M.Sub M' → ∀ Qd : QD, Qd (f x) M' → te (δ.set i (some x)) M' Qd fun _ _ _ => False)
    (h : ∀ D0, M D0 = none → Q (.obj D0) (M.set D0 (.lst ((items.filter p).map f)))) (hP : ∀ M', M.Sub M' → P M' := by exact fun _ _ => trivial) : ∀ D0, M D0 = none → lcL D0 i tt te δ P (fun M2 => Q (.obj D0) M2) items [] (M.set D0 (.lst [])) := fun D0 hD => by
  refine lcL_pure hD hP p f h1 h2 ?_
  rw [List.nil_append]
  exact h D0 hD
theorem lcm_map {i : Nat} {te : DE} {δ : DS} {M : Mem} {P : Mem → Prop} {Q : QD} {items : List D} (f : D → D)
    (h2 : ∀ x, x ∈ items → ∀ M', M.Sub M' → ∀ Qd : QD, Qd (f x) M' → te (δ.set i (some x)) M' Qd fun _ _ _ => False)
    (h : ∀ D0, M D0 = none → Q (.obj D0) (M.set D0 (.lst (items.map f)))) (hP : ∀ M', M.Sub M' → P M' := by exact fun _ _ => trivial) : ∀ D0, M D0 = none → lcL D0 i dYes te δ P (fun M2 => Q (.obj D0) M2) items [] (M.set D0 (.lst [])) := by
  refine lcm_pure (fun _ => true) f (fun x _ M' _ Qb q => q) (fun x hx _ => h2 x hx) (fun D0 hD => ?_) hP
  rw [List.filter_eq_self.mpr (fun _ _ => rfl)]
  exact h D0 hD
theorem eqv_nil (xs : List D) : D.eqv (.lst xs) (.lst []) = xs.isEmpty := by
  cases xs <;> rfl
theorem flat_map {α : Type} (n : Nat) (g : α → D) (h : ∀ a, flatN n (g a) = true) : ∀ xs : List α, flatL n (xs.map g) = true
  | [] => rfl
  | x :: xs => by
    rw [List.map_cons]
    unfold flatL
    rw [h x, flat_map n g h xs]
    rfl
theorem flatN_lst (n : Nat) (xs : List D) : flatN (n + 1) (.lst xs) = flatL n xs := by simp [flatN]
theorem flatN_tup (n : Nat) (xs : List D) : flatN (n + 1) (.tup xs) = flatL n xs := by simp [flatN]
theorem flatN_str (n : Nat) (z : Str) : flatN n (.str z) = true := by cases n <;> simp [flatN]
theorem flatN_int (n : Nat) (z : Int) : flatN n (.int z) = true := by cases n <;> simp [flatN]
theorem flatN_bl (n : Nat) (z : Bool) : flatN n (.bl z) = true := by cases n <;> simp [flatN]
theorem flatN_non (n : Nat) : flatN n .non = true := by cases n <;> simp [flatN]
theorem flatL_nil (n : Nat) : flatL n [] = true := rfl
theorem flatL_cons (n : Nat) (x : D) (xs : List D) : flatL n (x :: xs) = (flatN n x && flatL n xs) := by simp [flatL]
theorem cond_of {b : Bool} {A B : Prop} (h1 : b = true → A) (h2 : b = false → B) : cond b A B := by
  cases b with
  | true => exact h1 rfl
  | false => exact h2 rfl
theorem cond_dec {c : Prop} [Decidable c] {A B : Prop} (h1 : c → A) (h2 : ¬ c → B) : cond (decide c) A B := by
  by_cases h : c
  · rw [decide_eq_true h]; exact h1 h
  · rw [decide_eq_false h]; exact h2 h
theorem retD_of {Q : QD} {d : D} {M : Mem} (h : Q d M) : retD Q d M := ⟨M, Mem.Sub.refl M, h⟩
theorem retX_of {X : Addr → Mem → Prop} {c : Addr} {δ : DS} {M : Mem} (h : X c M) : retX X c δ M := ⟨M, Mem.Sub.refl M, h⟩
theorem res_obj {M : Mem} {a : Addr} {ds : List D} (h : M a = some (.lst ds)) : res M (.obj a) = .lst ds := by
  show resO a (M a) = _
  rw [h]; rfl
theorem res_objD {M : Mem} {a : Addr} {ds : List (Str × D)} (h : M a = some (.dic ds)) : res M (.obj a) = .dic ds := by
  show resO a (M a) = _
  rw [h]; rfl
theorem cpow_109 : CPow 10 9 = True := eq_true ⟨by decide, by decide, by decide⟩
theorem pow_109 : (10 : Int) ^ (Int.toNat 9) = 1000000000 := by decide
theorem small_line {n : Nat} (h : n ≤ 10000000) : n ≤ sizeLine := by rw [sizeLine_eq]; omega
theorem small_line' {n : Nat} (h : n < 10000000) : n < sizeLine := by rw [sizeLine_eq]; omega
theorem cdiv {a b : Int} (h : 0 < b) (h2 : b < 1073741824) : CDiv a b := ⟨h, h2⟩
/-- a comprehension in a comprehension: the outer one's names -/
theorem lookup_relabel {env : Env} {x : Str} : ∀ (names : List (Str × NameKind)), (names.map fun (n, k) => if (k == NameKind.free && env.scope.kind == .function && env.kindOf n == some .cell) then (n, NameKind.cell) else (n, k)).lookup x =
    (names.lookup x).map fun k => if (k == NameKind.free && env.scope.kind == .function && env.kindOf x == some .cell) then NameKind.cell else k
  | [] => rfl
  | (n, k) :: names => by
    rw [List.map_cons]
    by_cases h : x = n
    · subst h
      simp only [List.lookup_cons, beq_self_eq_true]
      split <;> simp_all
    · have hb : (x == n) = false := beq_eq_false_iff_ne.mpr h
      have ih := lookup_relabel (env := env) (x := x) names
      simp only
      split
      · rw [List.lookup_cons, hb]
        simp only
        rw [ih, List.lookup_cons, hb]
      · rw [List.lookup_cons, hb]
        simp only
        rw [ih, List.lookup_cons, hb]
theorem blkC_relabel {N : List Str} {sc scope : Scope} {own : List (Str × Nat)} {env : Env} (h : blkC N sc scope own = true) : blkC N (relabel sc env) scope own = true := by
  unfold blkC at h ⊢
  simp only [Bool.and_eq_true, List.all_eq_true] at h ⊢
  refine ⟨h.1, fun y hy => ?_⟩
  have q := h.2 y hy
  cases hk : y.2 with
  | free =>
    rw [hk] at q
    simp only at q ⊢
    unfold relabel
    simp only
    rw [lookup_relabel]
    cases hl : sc.names.lookup y.1 with
    | none => rw [hl] at q; cases q
    | some k =>
      rw [hl] at q
      have key : ∀ c : Bool, (match some (if c = true then NameKind.cell else k) with | some .cell => true | some .free => true | _ => false) = true := by
        intro c
        cases k <;> cases c <;> first | rfl | exact q
      exact key _
  | _ =>
    rw [hk] at q
    try exact q
theorem blkOk_nest {N : List Str} {sc scope : Scope} {own : List (Str × Nat)} {cl : List (Str × Addr)} {C : Addr} {env : Env} (h : blkC N sc scope own = true) : BlkOk N (compEnvC sc cl C env).scope scope own := blkOk_by (blkC_relabel h)
end DL

/-! The data layer: sorted of texts -/
namespace DL
open PySem PySem.Spec PyProof.Rows L2

def leS (a b : Str) : Bool := !ltCps b.cps.toList a.cps.toList
theorem leS_iff {a b : Str} : leS a b = true ↔ a.cps.toList ≤ b.cps.toList := by
  unfold leS
  rw [ltCps_eq]
  simp [List.not_lt]
theorem leS_trans {a b c : Str} (h : leS a b = true) (k : leS b c = true) : leS a c = true := by
  rw [leS_iff] at *
  exact List.le_trans h k
theorem leS_anti {a b : Str} (h : leS a b = true) (k : leS b a = true) : a = b := by
  rw [leS_iff] at *
  have := List.le_antisymm h k
  cases a; cases b
  simp only [Str.mk.injEq]
  exact Array.toList_inj.mp this
theorem leS_total (a b : Str) : (leS a b || leS b a) = true := by
  rw [Bool.or_eq_true, leS_iff, leS_iff]
  exact List.le_total a.cps.toList b.cps.toList
def sortS (xs : List Str) : List Str := xs.mergeSort leS
theorem rising_pw : ∀ {x : Str} {r : List Str}, risingS x r = true → (x :: r).Pairwise (fun a b => leS a b = true)
  | x, [], _ => List.pairwise_singleton _ _
  | x, y :: r, h => by
    have h : (!ltCps y.cps.toList x.cps.toList && risingS y r) = true := h
    rw [Bool.and_eq_true] at h
    have ih := rising_pw h.2
    refine List.pairwise_cons.mpr ⟨fun z hz => ?_, ih⟩
    rcases List.mem_cons.mp hz with rfl | hz
    · exact h.1
    · exact leS_trans h.1 ((List.pairwise_cons.mp ih).1 z hz)
theorem sortedS_pw {l : List Str} (h : sortedS l = true) : l.Pairwise (fun a b => leS a b = true) := by
  cases l with
  | nil => exact List.Pairwise.nil
  | cons x r => exact rising_pw h
theorem pw_eq : ∀ {a b : List Str}, a.Perm b → a.Pairwise (fun x y => leS x y = true) → b.Pairwise (fun x y => leS x y = true) → a = b
  | [], b, p, _, _ => (List.nil_perm.mp p).symm
  | x :: a, [], p, _, _ => by have := p.length_eq; simp at this
  | x :: a, y :: b, p, ha, hb => by
    have e : x = y := by
      have h1 : x ∈ y :: b := p.mem_iff.mp List.mem_cons_self
      have h2 : y ∈ x :: a := p.mem_iff.mpr List.mem_cons_self
      rcases List.mem_cons.mp h1 with e | h1
      · exact e
      rcases List.mem_cons.mp h2 with e | h2
      · exact e.symm
      exact leS_anti ((List.pairwise_cons.mp ha).1 y h2) ((List.pairwise_cons.mp hb).1 x h1)
    subst e
    rw [pw_eq (List.Perm.cons_inv p) (List.pairwise_cons.mp ha).2 (List.pairwise_cons.mp hb).2]
theorem sortS_perm (xs : List Str) : (sortS xs).Perm xs := List.mergeSort_perm xs leS
theorem sortS_pw (xs : List Str) : (sortS xs).Pairwise (fun a b => leS a b = true) :=
  List.pairwise_mergeSort (le := leS) (fun a b c h k => leS_trans h k) (fun a b => leS_total a b) xs
theorem sortS_of {xs ys : List Str} (p : ys.Perm xs) (h : sortedS ys = true) : ys = sortS xs := pw_eq (p.trans (sortS_perm xs).symm) (sortedS_pw h) (sortS_pw xs)
theorem sortS_eq {xs ys : List Str} (p : xs.Perm ys) : sortS xs = sortS ys := pw_eq ((sortS_perm xs).trans (p.trans (sortS_perm ys).symm)) (sortS_pw xs) (sortS_pw ys)
def rSortedA (K : PySem.W.Frag) : List V → Hp → VK → Prop := fun vs H Q => ∃ (a : Addr) (xs : List Str), vs = [V.ref a] ∧ SqL K H a (xs.map V.str) ∧
  ∀ (ys : List Str) (p : Addr), ys.Perm xs → sortedS ys = true → H p = none → Q (.ref p) (upd H p (.lst (ys.map V.str)))
section
variable {X : Cx} {K : PySem.W.Frag}
theorem cr_sortedD : CallR X (.builtin "sorted") (rSortedA X.K) := by
  intro pins s σ H vs us Q I r h
  obtain ⟨a, xs, rfl, hs, q⟩ := h
  obtain ⟨its, rv, hl, hz⟩ := I.list hs
  rw [Vals.ref1 r]
  have hlen0 := rv.length
  rw [List.length_map] at hlen0
  rw [List.length_map] at hz
  refine PyProof.Rows.sorted_strsAny hl.isList rv.strs (by rw [← hlen0]; exact hz) fun out ys h1 h2 h3 => ?_
  obtain ⟨ep, he'⟩ := PyProof.Rows.sortedAll_at s.heap its out
  have hlen : (ys.map V.str).length ≤ sizeLine := by rw [List.length_map, h2.length_eq]; exact hz
  exact ⟨.ref _, upd H (s.heap.objs.size + 1) (.lst (ys.map V.str)), I.laid (t' := s.toks) (fun _ _ => PyProof.Rows.sortedAll_old) (Nat.le_succ _) ⟨hlen, out.toList, ep, vals_of_strs h1, he'⟩, rfl, q ys _ h2 h3 (I.hok.fresh (Nat.le_succ _))⟩
def sortD (d : D) (M : Mem) (Q : QD) : Prop := ∃ ns : List Str, d = .lst (ns.map .str) ∧ Q (.lst ((sortS ns).map .str)) M
theorem reps_ok {G : Hp} : ∀ {ns : List Str} {vs : List V}, RepL K G vs (ns.map D.str) → ∀ z ∈ ns, strOk z = true
  | [], _, _ => fun z hz => by cases hz
  | x :: r, _, .cons (.str _ h) t => fun z hz => by
    rcases List.mem_cons.mp hz with rfl | hz
    · exact h
    · exact reps_ok t z hz
theorem l_sortedD : LCall K (rSortedA K) (on1 sortD) := by
  refine LCall.imp (l_on1 (r := fun x H Q => ∃ (a : Addr) (xs : List Str), x = .ref a ∧ SqL K H a (xs.map V.str) ∧ ∀ (ys : List Str) (p : Addr), ys.Perm xs → sortedS ys = true → H p = none → Q (.ref p) (upd H p (.lst (ys.map V.str)))) fun v H G M d d' Q Q' ok rv e h hq => ?_) fun vs H Q ⟨v, e, a, ns, f, h⟩ => ⟨a, ns, by rw [e, f], h⟩
  obtain ⟨ns, f, h⟩ := h
  subst f
  obtain ⟨a, vs, f, h1, q, z⟩ := rv.lstOf ok e
  have hok := reps_ok q
  have := reps_strs q
  subst this
  refine ⟨a, ns, f, SqL.of h1, fun ys p hp hs hn => ?_⟩
  have gp := ok.gnone hn
  have ey := sortS_of hp hs
  refine hq _ _ _ _ _ h (ok.frozen hn) (same_upd gp) (.lst upd_same ?_ ?_)
  · rw [← ey]
    exact .strs fun z hz => hok z (hp.mem_iff.mp hz)
  · rw [List.length_map, ← ey, hp.length_eq, ← List.length_map (f := D.str)]
    exact z
end
theorem sortD_lst {ns : List Str} {M : Mem} {Q : QD} (h : Q (.lst ((sortS ns).map .str)) M) : sortD (.lst (ns.map .str)) M Q := ⟨ns, rfl, h⟩
end DL

/-! The data layer: try with a named exception, isinstance of it -/
namespace DL
open PySem PySem.Spec PyProof.Rows L2

/-- behind the suite the name is gone -/
abbrev goneE (i : Nat) (E : DEnds) : DEnds := { nx := fun δ M => E.nx (δ.set i none) M, rt := E.rt, bk := fun δ M => E.bk (δ.set i none) M, ct := fun δ M => E.ct (δ.set i none) M, xc := fun _ _ _ => False }
def dTryAs (K : PySem.W.Frag) (c : Value) (i : Nat) (t : DSt) (u : Addr → Addr → DSt) : DSt := fun E δ M =>
  t { E with xc := fun cls δ' M' => PySem.W.exmOne K (.ref cls) c = some true ∧ ∀ a, M' a = none → u a cls (goneE i E) (δ'.set i (some (.obj a))) M' } δ M
section
variable {X : Cx} {W : WX} {x n : Str} {i : Nat} {np pos pos' : Pos}
theorem pds_tryAs {c : Value} {body suite : List Stmt} {b₀ : Stmt} {t : DSt} {u : Addr → Addr → DSt} (hs : X.stack = X.env :: X.outer) (hf : X.env.frame = some X.env.locals) (hN : X.N.Nodup) (hi : X.N[i]? = some n) (hln : X.env.kindOf n = some .local) (hc : Names X x c) (tk : Takes X W)
    (hb : ∀ (W' : WX) (pn : List (Addr × Obj)) (xe : Value → Shared → Prop), Takes (X.tr pn xe) W' → PassesOwn (model X.prog X.w) X.A X.env xe → PDSs (X.tr pn xe) W' body t)
    (hsu : ∀ (a ec : Addr) (oe : Obj) (pn : List (Addr × Obj)), Zc (.ref ec) none oe → (∃ vs, oe.data = .fields vs) → PDSs (X.suite a ((a, oe) :: pn)) W0 (b₀ :: suite) (u a ec)) :
    PDS X W (.Try body [.ExceptHandler (some (.Name x np)) (some n) (b₀ :: suite) pos'] [] [] pos) (dTryAs X.K c i t u) :=
  PSw (ps_try_as (tb := fun W' => upS X.K W' t) (ts := fun a cls d D σ H => ∃ ec, cls = .ref ec ∧ d = none ∧ upS X.K W0 (u a ec) D σ H) (Wout := W) hs hf hN hi hln hc tk hb
    (fun a oe cls d pn hz hf => ⟨fun pins s σ H D I ⟨ec, e1, e2, h⟩ => by
      subst e1 e2
      exact (hsu a ec oe pn hz hf).run pins s σ H D I h⟩)) fun D σ H ⟨G, M, δ, E, ok, sl, h, eo⟩ =>
    ⟨G, M, δ, _, ok, sl, h, ⟨eo.nx, eo.rt, eo.bk, eo.ct, fun cls δ' M' σ' H' G' ⟨hx, hu⟩ ok' e' sl' => ⟨true, hx, fun _ a ha => ⟨cls, rfl, rfl, G', M', _, _, ok', Slots.set (.yes (.obj a)) i sl', hu a (ok'.mnone ha),
      ⟨fun δ2 M2 σ2 H2 G2 h2 ok2 e2 sl2 => eo.nx _ _ _ _ _ h2 ok2 (e'.trans e2) (Slots.set .no i sl2), fun d M2 v H2 G2 h2 ok2 e2 r2 => eo.rt _ _ _ _ _ h2 ok2 (e'.trans e2) r2,
       fun δ2 M2 σ2 H2 G2 h2 ok2 e2 sl2 => eo.bk _ _ _ _ _ h2 ok2 (e'.trans e2) (Slots.set .no i sl2), fun δ2 M2 σ2 H2 G2 h2 ok2 e2 sl2 => eo.ct _ _ _ _ _ h2 ok2 (e'.trans e2) (Slots.set .no i sl2), WOk.bot⟩⟩, fun z => nomatch z⟩⟩⟩
end

/-! ### isinstance of the exception that the suite holds -/
def kitD (K : PySem.W.Frag) (ec : Addr) : D → Option Bool
  | .obj C => PySem.W.kitOne K (.ref ec) (.ref C)
  | .ty n => PySem.W.kitOne K (.ref ec) (.type n)
  | _ => none
def kitAnyD (K : PySem.W.Frag) (ec : Addr) : List D → Option Bool
  | [] => some false
  | c :: r => match kitD K ec c with
    | some true => some true
    | some false => kitAnyD K ec r
    | none => none
def kitV (K : PySem.W.Frag) (ec : Addr) : D → Option Bool
  | .tup cs => kitAnyD K ec cs
  | d => kitD K ec d
def isED (K : PySem.W.Frag) (a ec : Addr) (ds : List D) (M : Mem) (Q : QD) : Prop := match ds with
  | [.obj a', c] => a' = a ∧ ExcC K ec ∧ el (kitV K ec c) fun b => Q (.bl b) M
  | _ => False
def rIsEA (K : PySem.W.Frag) (ec a : Addr) : List V → Hp → VK → Prop := fun xs H Q => ExcC K ec ∧ (rIsE K ec a xs H Q ∨ ∃ (tp : Addr) (cs : List V) (b : Bool), xs = [.ref a, .ref tp] ∧ SqT K H tp cs ∧ (∀ us, Vals cs us → PySem.W.kitAny K (.ref ec) us = some b) ∧ Q (.bl b) H)
theorem call_isEA {X : Cx} {a ec : Addr} {oe : Obj} {pn : List (Addr × Obj)} (hz : Zc (.ref ec) none oe) (hf : ∃ vs, oe.data = .fields vs) : CallR (X.suite a ((a, oe) :: pn)) (.builtin "isinstance") (rIsEA X.K ec a) := by
  intro pins s σ H xs us Q I r ⟨C, h⟩
  rcases h with h | ⟨tp, cs, b, rfl, hT, e, q⟩
  · exact call_isE C hz hf pins s σ H xs us Q I r h
  · cases r with
    | cons rx rr =>
      cases rr with
      | cons rt rr =>
        cases rr
        cases rx
        cases rt
        obtain ⟨hget, _⟩ := I.pin (a, oe) (List.mem_append.mpr (.inl List.mem_cons_self))
        obtain ⟨vs, hv⟩ := hf
        have J : PySem.W.InstAt s.heap a oe ec none := by
          obtain ⟨oc, od, oda, osl⟩ := oe
          obtain ⟨h1, h2⟩ := hz
          dsimp only at h1 h2 hv
          subst h1 h2 hv
          exact ⟨hget, rfl, rfl, trivial⟩
        obtain ⟨its, rv, ⟨o, h1, h2, n, h3⟩, _⟩ := I.tuple hT
        obtain ⟨oc, od, dt, sl⟩ := o
        simp only at h2 h3
        subst h2 h3
        exact PySem.W.kia_tup (PySem.W.handS_kitx_exc C.hg C.hk C.hs C.hd C.ha C.hn C.ht C.hm) I.kIn J h1 (e its rv) (fun z => nomatch z) fun tk => ⟨.bl b, H, I.kept (t' := tk) fun _ _ z => z, rfl, q⟩
section
variable {K : PySem.W.Frag}
theorem kitD_val {G : Hp} {ec : Addr} {v : V} {d : D} {b : Bool} (r : Rep K G v d) (h : kitD K ec d = some b) : ∃ cv, (∀ u, RelV v u → u = cv) ∧ PySem.W.kitOne K (.ref ec) cv = some b := by
  cases r with
  | obj a => exact ⟨_, fun u e => e, h⟩
  | ty n => exact ⟨_, fun u e => e, h⟩
  | _ => cases h
theorem kitAnyD_vals {G : Hp} {ec : Addr} : ∀ {vs : List V} {ds : List D} {b : Bool}, RepL K G vs ds → kitAnyD K ec ds = some b → ∀ us, Vals vs us → PySem.W.kitAny K (.ref ec) us = some b
  | _, _, _, .nil, h, _, .nil => h
  | _, _, b, .cons r t, h, _, .cons ru rt => by
    unfold kitAnyD at h
    split at h
    · rename_i e
      obtain ⟨cv, h1, h2⟩ := kitD_val r e
      cases h1 _ ru
      unfold PySem.W.kitAny
      rw [h2]
      exact h
    · rename_i e
      obtain ⟨cv, h1, h2⟩ := kitD_val r e
      cases h1 _ ru
      unfold PySem.W.kitAny
      rw [h2]
      exact kitAnyD_vals t h _ rt
    · cases h
theorem l_isE {a ec : Addr} : LCall K (rIsEA K ec a) (isED K a ec) := by
  intro vs H G M ds Q Q' ok rl h hq
  unfold isED at h
  split at h
  · rename_i a' c
    obtain ⟨rfl, C, h1⟩ := h
    obtain ⟨b, eb, h2⟩ := el_of h1
    cases rl with
    | cons r1 r2 =>
      cases r2 with
      | cons r2 r3 =>
        cases r3
        cases r1
        refine ⟨C, ?_⟩
        unfold kitV at eb
        split at eb
        · cases r2 with
          | tup hg q z => exact .inr ⟨_, _, b, rfl, SqT.of (ok.sub _ _ hg), kitAnyD_vals q eb, hq _ _ _ _ _ h2 ok (Same.refl _) (.bl b)⟩
        · obtain ⟨cv, k1, k2⟩ := kitD_val r2 eb
          exact .inl ⟨_, cv, b, rfl, k1, k2, hq _ _ _ _ _ h2 ok (Same.refl _) (.bl b)⟩
  · exact h.elim
end
theorem isED_obj {K : PySem.W.Frag} {a ec a' : Addr} {c : D} {M : Mem} {Q : QD} : isED K a ec [.obj a', c] M Q = (a' = a ∧ ExcC K ec ∧ el (kitV K ec c) fun b => Q (.bl b) M) := rfl
theorem kitV_obj {K : PySem.W.Frag} {ec C : Addr} : kitV K ec (.obj C) = PySem.W.kitOne K (.ref ec) (.ref C) := rfl
theorem kitV_ty {K : PySem.W.Frag} {ec : Addr} {n : String} : kitV K ec (.ty n) = PySem.W.kitOne K (.ref ec) (.type n) := rfl
theorem kitAnyD_cons {K : PySem.W.Frag} {ec C : Addr} {cs : List D} {b r : Bool} (h : PySem.W.kitOne K (.ref ec) (.ref C) = some b) (hr : b = false → kitAnyD K ec cs = some r) (hb : b = true → r = true) : kitAnyD K ec (.obj C :: cs) = some r := by
  unfold kitAnyD
  rw [show kitD K ec (.obj C) = some b from h]
  cases b with
  | true => show some true = some r; rw [hb rfl]
  | false => exact hr rfl
end DL

/-! The data layer: == and != where a dict may stand among the items -/
namespace PySem.SeqAt
open AutoSeq1 (wpAny_loadPart')
open MeetsSeq
theorem dl_dict_ne_tuple (l b : Addr) (es : Array DictEntry) (ep : Nat) (items2 : Array Value) (n2 : Nat) (dd2 : Option Addr) (sl2 : Array (Option Value)) :
    Meets (Builtin.«dict.__ne__» ⟨[.ref l, .ref b], []⟩) (fun _ R s => s.heap.get? l = some { cls := .type "dict", dict := none, data := .dict es ep, slots := #[] } ∧ s.heap.get? b = some { cls := .type "tuple", dict := dd2, data := .seq items2 n2, slots := sl2 } ∧ R (.ok (.ret .notImplemented)) s) :=
  .of_wp fun prog w A R s h => by obtain ⟨hp, g, d, tk, os⟩ := s; obtain ⟨hl, hb, h⟩ := h; have f1 := F.sub_tuple_dict; wp_walk using wpAny_loadPart' hl, wpAny_loadPart' hb; exact ⟨_, rfl, h⟩
theorem dl_tuple_ne_dict (l b : Addr) (items : Array Value) (n : Nat) (es : Array DictEntry) (ep : Nat) (dd : Option Addr) (sl : Array (Option Value)) :
    Meets (Builtin.«tuple.__ne__» ⟨[.ref l, .ref b], []⟩) (fun _ R s => s.heap.get? l = some { cls := .type "tuple", dict := dd, data := .seq items n, slots := sl } ∧ s.heap.get? b = some { cls := .type "dict", dict := none, data := .dict es ep, slots := #[] } ∧ R (.ok (.ret .notImplemented)) s) :=
  .of_wp fun prog w A R s h => by obtain ⟨hp, g, d, tk, os⟩ := s; obtain ⟨hl, hb, h⟩ := h; have f1 := F.sub_dict_tuple; wp_walk using wpAny_loadPart' hl, wpAny_loadPart' hb; exact ⟨_, rfl, h⟩
theorem dl_rcNe_dict_tuple {A : Around} {s : Shared} {l b : Addr} {o : Obj} {es : Array DictEntry} {ep : Nat} {items2 : Array Value} (hl : s.heap.get? l = some o) (hx : o.ExactDict) (hd : o.data = .dict es ep) (hb : s.heap.IsTuple b items2) (hu : A.units < cLine) : RcNeAt A s (.ref l) (.ref b) true := fun prog w E Q h => by
  obtain ⟨cls, dd, data, sl⟩ := o
  obtain ⟨h1, h2, h3⟩ := hx
  obtain ⟨⟨cls2, dd2, data2, sl2⟩, ho2, hc2, n2, hd2⟩ := id hb
  simp only at h1 h2 h3 hd hc2 hd2
  subst h1 h2 h3 hd hc2 hd2
  have hne : l ≠ b := fun e => by
    subst e
    rw [hl] at ho2
    have := congrArg Obj.data (Option.some.inj ho2)
    simp at this
  exact (rc_ne_decline_or (k := false) ⟨_, hl, rfl⟩ ⟨_, ho2, rfl⟩ (by decide) F.sub_tuple_dict F.slot_dict_ne F.slot_tuple_ne_refl
    (fun _ hq => call_meets F.slot_dict_ne ⟨_, hl, rfl⟩ F.entry_dict_ne (F.args_dict_ne_2 _ _) (dl_dict_ne_tuple l b es ep items2 n2 dd2 sl2) ⟨hl, ho2, hq⟩)
    (fun _ hq => call_meets F.slot_tuple_ne_refl ⟨_, ho2, rfl⟩ F.entry_tuple_ne (F.args_tuple_ne_2 _ _) (dl_tuple_ne_dict b l items2 n2 es ep dd2 sl2) ⟨ho2, hl, hq⟩)
    (fun _ hq => wpAny_isSame_ref_other hne hl ho2 (by simp) hq) (.inr hu) h)
end PySem.SeqAt
namespace DL
open PySem PySem.Spec PyProof.Rows L2

/-- the same item, or equal data -/
def SameV (K : PySem.W.Frag) (H : Hp) (v w : V) : Prop := (∃ a, v = .ref a ∧ w = .ref a) ∨ ∃ d, Dp K H v d ∧ Dp K H w d ∧ d.canLay0 = true ∧ d.depth ≤ 60 ∧ PyData.eqv d d = true
/-- two lists item by item the same -/
def rSameL (K : PySem.W.Frag) (neg : Bool) : R2 := fun x y H Q => ∃ (a b : Addr) (vs ws : List V), x = .ref a ∧ y = .ref b ∧ SqL K H a vs ∧ SqL K H b ws ∧ Paired (SameV K H) vs ws ∧ Q (.bl (!neg)) H
def rDictTup (K : PySem.W.Frag) : R2 := fun x y H Q => ∃ (a b : Addr) (ks : List (Key × V)) (ws : List V), x = .ref a ∧ y = .ref b ∧ H a = some (.dK ks) ∧ SqT K H b ws ∧ Q (.bl true) H
section
variable {X : Cx} {K : PySem.W.Frag}
theorem same_items {pins : List (Addr × Obj)} {σ : L2.St} {H : Hp} {s : Shared} (I : Inv X pins σ H s) (hu : X.A.units + 64 < cLine) : ∀ {vs ws : List V} {its its2 : List Value}, Vals vs its → Vals ws its2 → Paired (SameV X.K H) vs ws →
    its.length = its2.length ∧ ∀ j (h1 : j < its.length) (h2 : j < its2.length), SeqAt.EqAt X.A.in1 s its[j] its2[j] true
  | _, _, _, _, .nil, .nil, .nil => ⟨rfl, fun j h => absurd h (Nat.not_lt_zero _)⟩
  | _, _, _, _, .cons (b := u1) r1 t1, .cons (b := u2) r2 t2, .cons q t => by
    obtain ⟨e, ih⟩ := same_items I hu t1 t2 t
    refine ⟨by rw [List.length_cons, List.length_cons, e], fun j h1 h2 => ?_⟩
    cases j with
    | succ j => exact ih j (Nat.lt_of_succ_lt_succ h1) (Nat.lt_of_succ_lt_succ h2)
    | zero =>
      show SeqAt.EqAt X.A.in1 s u1 u2 true
      rcases q with ⟨a, e1, e2⟩ | ⟨d, d1, d2, c, dp, ee⟩
      · subst e1 e2
        obtain rfl : u1 = Value.ref a := r1
        obtain rfl : u2 = Value.ref a := r2
        exact SeqAt.EqAt.same _
      · obtain ⟨as, q1⟩ := Dp.reads I d _ _ d1 r1
        obtain ⟨bs, q2⟩ := Dp.reads I d _ _ d2 r2
        have := SeqAt.eqAt_reads d d X.A.in1 s _ _ _ _ q1 q2 c c (by
          have : min d.depth d.depth ≤ d.depth := Nat.min_le_left _ _
          show X.A.units + 1 + min d.depth d.depth < cLine
          omega)
        rw [ee] at this
        exact this
theorem op_eqL (hu : X.A.units + 64 < cLine) : OpR X (compareOp .Eq) (rSameL X.K false) := by
  intro pins s σ H x y v u Q I rx ry h
  obtain ⟨a, b, vs, ws, rfl, rfl, sa, sb, p, q⟩ := h
  obtain rfl : v = Value.ref a := rx
  obtain rfl : u = Value.ref b := ry
  obtain ⟨its, rv, hl, _⟩ := I.list sa
  obtain ⟨its2, rw2, hl2, _⟩ := I.list sb
  obtain ⟨e, he⟩ := same_items I hu rv rw2 p
  refine SeqAt.eq_listAt (e := fun _ => true) hl.isList hl2.isList (by simpa using e) (by omega) (fun j h1 h2 => ?_) ⟨.bl true, H, I, ?_, q⟩
  · simpa using he j (by simpa using h1) (by simpa using h2)
  · show Value.bool _ = Value.bool true
    simp
theorem op_neL (hu : X.A.units + 64 < cLine) : OpR X (compareOp .NotEq) (rSameL X.K true) := by
  intro pins s σ H x y v u Q I rx ry h
  obtain ⟨a, b, vs, ws, rfl, rfl, sa, sb, p, q⟩ := h
  obtain rfl : v = Value.ref a := rx
  obtain rfl : u = Value.ref b := ry
  obtain ⟨its, rv, hl, _⟩ := I.list sa
  obtain ⟨its2, rw2, hl2, _⟩ := I.list sb
  obtain ⟨e, he⟩ := same_items I hu rv rw2 p
  refine SeqAt.RcNeAt.lists (e := fun _ => true) hl.isList hl2.isList (by simpa using e) (by omega) (fun j h1 h2 => ?_) X.prog X.w X.xe _ ⟨.bl false, H, I, ?_, q⟩
  · simpa using he j (by simpa using h1) (by simpa using h2)
  · show Value.bool _ = Value.bool false
    simp
theorem op_neDT (hu : X.A.units + 64 < cLine) : OpR X (compareOp .NotEq) (rDictTup X.K) := by
  intro pins s σ H x y v u Q I rx ry h
  obtain ⟨a, b, ks, ws, rfl, rfl, ha, sb, q⟩ := h
  obtain rfl : v = Value.ref a := rx
  obtain rfl : u = Value.ref b := ry
  obtain ⟨_, _, va, _, o, es, ep, ho, hx, hd, _⟩ := (show ObjOk X.prog X.w H s.heap a (.dK ks) from I.hok a _ ha)
  obtain ⟨its, rv, ht, _⟩ := I.tuple sb
  exact SeqAt.dl_rcNe_dict_tuple ho hx hd ht (by omega) X.prog X.w X.xe _ ⟨.bl true, H, I, rfl, q⟩
/-- an item that may be a dict -/
def itemF (M : Mem) (d : D) : Prop := flatN 8 d = true ∨ ∃ p kvs, d = .obj p ∧ M p = some (.dic kvs)
theorem eqv_self (n : Nat) (d : D) (h : flatN n d = true) : PyData.eqv (toPy d) (toPy d) = true := by
  have lst : ∀ (n : Nat) (h : ∀ d, flatN n d = true → PyData.eqv (toPy d) (toPy d) = true) (xs : List D), flatL n xs = true → PyData.eqvAll (toPyL xs) (toPyL xs) = true := by
    intro n h xs
    induction xs with
    | nil => intro _; rfl
    | cons x xs ih =>
      intro hf
      unfold flatL at hf
      rw [Bool.and_eq_true] at hf
      show (PyData.eqv (toPy x) (toPy x) && PyData.eqvAll (toPyL xs) (toPyL xs)) = true
      rw [h x hf.1, ih hf.2]; rfl
  induction n generalizing d with
  | zero =>
    cases d with
    | non => rfl
    | bl b => cases b <;> rfl
    | int i => show (i == i) = true; exact beq_self_eq_true i
    | str s => show (s == s) = true; exact beq_self_eq_true s
    | _ => simp [flatN] at h
  | succ n ih =>
    cases d with
    | non => rfl
    | bl b => cases b <;> rfl
    | int i => show (i == i) = true; exact beq_self_eq_true i
    | str s => show (s == s) = true; exact beq_self_eq_true s
    | lst xs => exact lst n ih xs (by simpa [flatN] using h)
    | tup xs => exact lst n ih xs (by simpa [flatN] using h)
    | _ => simp [flatN] at h
theorem sameV_reps {G H : Hp} {M : Mem} (e : Same G H) : ∀ {vs ws : List V} {ds : List D}, RepL K G vs ds → RepL K G ws ds → (∀ d ∈ ds, itemF M d) → Paired (SameV K H) vs ws
  | _, _, _, .nil, .nil, _ => .nil
  | _, _, d :: ds, .cons r1 t1, .cons r2 t2, h => by
    refine .cons ?_ (sameV_reps e t1 t2 fun d hd => h d (List.mem_cons_of_mem _ hd))
    rcases h d List.mem_cons_self with hf | ⟨p, kvs, hd, _⟩
    · obtain ⟨a1, b1, c1⟩ := Rep.dp e r1 hf
      obtain ⟨a2, _, _⟩ := Rep.dp e r2 hf
      exact .inr ⟨_, a1, a2, b1, by omega, eqv_self 8 d hf⟩
    · subst hd
      cases r1
      cases r2
      exact .inl ⟨_, rfl, rfl⟩
/-- ==, != : as ever; two lists with the same items; a dict and a tuple -/
def oEqX (neg : Bool) (x y : D) (M : Mem) (Q : QD) : Prop := oEqN neg x y M Q ∨ (∃ ds, res M x = .lst ds ∧ res M y = .lst ds ∧ (∀ d ∈ ds, itemF M d) ∧ Q (.bl (!neg)) M) ∨ (neg = true ∧ ∃ p kvs ts, x = .obj p ∧ M p = some (.dic kvs) ∧ y = .tup ts ∧ Q (.bl true) M)
theorem l_eqX : LOp K (fun x y H Q => rEqA K x y H Q ∨ rSameL K false x y H Q) (oEqX false) := by
  intro x y H G M dx dy Q Q' ok rx ry h hq
  rcases h with h | ⟨ds, e1, e2, hf, h⟩ | ⟨h, _⟩
  · exact .inl (l_eq x y H G M dx dy Q Q' ok rx ry h hq)
  · obtain ⟨a, vs, f1, h1, q1, _⟩ := rx.lstOf ok e1
    obtain ⟨b, ws, f2, h2, q2, _⟩ := ry.lstOf ok e2
    exact .inr ⟨a, b, vs, ws, f1, f2, SqL.of h1, SqL.of h2, sameV_reps ok.sub q1 q2 hf, hq _ _ _ _ _ h ok (Same.refl _) (.bl _)⟩
  · cases h
theorem l_neX : LOp K (fun x y H Q => rNeA K x y H Q ∨ (rSameL K true x y H Q ∨ rDictTup K x y H Q)) (oEqX true) := by
  intro x y H G M dx dy Q Q' ok rx ry h hq
  rcases h with h | ⟨ds, e1, e2, hf, h⟩ | ⟨_, p, kvs, ts, e1, e2, e3, h⟩
  · exact .inl (l_ne x y H G M dx dy Q Q' ok rx ry h hq)
  · obtain ⟨a, vs, f1, h1, q1, _⟩ := rx.lstOf ok e1
    obtain ⟨b, ws, f2, h2, q2, _⟩ := ry.lstOf ok e2
    exact .inr (.inl ⟨a, b, vs, ws, f1, f2, SqL.of h1, SqL.of h2, sameV_reps ok.sub q1 q2 hf, hq _ _ _ _ _ h ok (Same.refl _) (.bl _)⟩)
  · subst e1 e3
    obtain ⟨g, kv, hH, _, _⟩ := ok.mem _ _ e2
    cases rx
    cases ry with
    | tup hg q z => exact .inr (.inr ⟨_, _, _, _, rfl, rfl, hH, SqT.of (ok.sub _ _ hg), hq _ _ _ _ _ h ok (Same.refl _) (.bl _)⟩)
end
section
variable {X : Cx} {W : WX} {a b : Expr} {ta tb : DE} {pos : Pos}
theorem op_eqX (hu : X.A.units + 64 < cLine) : OpR X (compareOp .Eq) (fun x y H Q => rEqA X.K x y H Q ∨ rSameL X.K false x y H Q) := OpR.or (op_eqA hu) (op_eqL hu)
theorem op_neX (hu : X.A.units + 64 < cLine) : OpR X (compareOp .NotEq) (fun x y H Q => rNeA X.K x y H Q ∨ (rSameL X.K true x y H Q ∨ rDictTup X.K x y H Q)) := OpR.or (op_neA hu) (OpR.or (op_neL hu) (op_neDT hu))
theorem pd_eqX (hu : X.A.units + 64 < cLine) (ha : PD X W a ta) (hb : PD X W b tb) : PD X W (.Compare a [.Eq] [b] pos) (dOp (oEqX false) ta tb) := pd_cmp (op_eqX hu) l_eqX ha hb (nomark _)
theorem pd_neX (hu : X.A.units + 64 < cLine) (ha : PD X W a ta) (hb : PD X W b tb) : PD X W (.Compare a [.NotEq] [b] pos) (dOp (oEqX true) ta tb) := pd_cmp (op_neX hu) l_neX ha hb (nomark _)
theorem pdt_eqX (hu : X.A.units + 64 < cLine) (ha : PD X W a ta) (hb : PD X W b tb) : PDT X W (.Compare a [.Eq] [b] pos) (dB (dOp (oEqX false) ta tb)) := pdt_cmp (op_eqX hu) l_eqX ha hb (nomark _)
theorem pdt_neX (hu : X.A.units + 64 < cLine) (ha : PD X W a ta) (hb : PD X W b tb) : PDT X W (.Compare a [.NotEq] [b] pos) (dB (dOp (oEqX true) ta tb)) := pdt_cmp (op_neX hu) l_neX ha hb (nomark _)
/-- {}, a dict that may change -/
def dDic0M : DE := fun _ M Q _ => ∀ p, M p = none → Q (.obj p) (M.set p (.dic []))
theorem pd_dic0M : PD X W (.Dict [] [] pos) dDic0M :=
  PEw pe_dnewK fun σ H Q ⟨G, M, δ, Q', X', ok, sl, h, hq, hx⟩ p hp => hq _ _ _ _ _ (h p (ok.mnone hp)) (ok.write (m := .dic []) (ok.gnone hp) ⟨[], upd_same, rfl, .nil⟩) (Same.refl _) (.obj p)
end
end DL

namespace My
open PySem PySem.Spec PyProof.Rows L2 DL
local macro_rules | `(tactic| walk_at "dl") => `(tactic| try simp -implicitDefEqProofs only [DL.dNext, DL.dSeq, DL.dExpr, DL.dRet, DL.dIfS, DL.dSet, DL.dCont, DL.dRaise, DL.dFor, DL.dgName, DL.dgPair, DL.dTry, DL.dFn, DL.dMth, DL.dMk, DL.dFld, DL.dFldS, DL.dPut, DL.dVar, DL.slot, DL.dC, DL.dOp, DL.dUn, DL.oSub, DL.oMul, DL.oDiv, DL.oMod, DL.oPow, DL.oLt, DL.oLe, DL.oGt, DL.oGe, DL.oEq, DL.oNe, DL.oIn, DL.oNotIn, DL.dB, DL.dIsN, DL.dChain, DL.dAnd, DL.dOr, DL.dNot, DL.dAndV, DL.dOrV, DL.dNotV, DL.dIf, DL.dNil, DL.dCons, DL.few, DL.dLst, DL.dTup, DL.dLstM, DL.dFrz, DL.dPairs, DL.dDisp, DL.dDic0, DL.dSl, DL.dNoPart, DL.dCall, DL.dMet0L, DL.dMet, DL.dItems, DL.dRange1, DL.dEnum, DL.dLcM, DL.dwipe, DL.startD, DL.dNever, DL.el_some, DL.elL_lst, DL.elD_dic, DL.elI_ins, DL.res_non, DL.res_bl, DL.res_int, DL.res_str, DL.res_lst, DL.res_tupE, DL.res_dic, DL.res_scr, DL.res_ty, DL.oAdd_eq, DL.addR_int, DL.addR_str, DL.addR_lst, DL.addR_tup, DL.oAddM_eq, DL.addMR_lst, DL.oInt_eq, DL.intR_int, DL.oInt0_eq, DL.int0R_int, DL.oNeg_eq, DL.negR_int, DL.oEqN_eq, DL.eqR_some, DL.eqR_none, DL.eqS_non_non, DL.eqS_non_int, DL.eqS_non_bl, DL.eqS_non_str, DL.eqS_non_lst, DL.eqS_non_tup, DL.eqS_int_non, DL.eqS_int_int, DL.eqS_int_bl, DL.eqS_int_str, DL.eqS_int_lst, DL.eqS_int_tup, DL.eqS_bl_non, DL.eqS_bl_int, DL.eqS_bl_bl, DL.eqS_bl_str, DL.eqS_bl_lst, DL.eqS_bl_tup, DL.eqS_str_non, DL.eqS_str_int, DL.eqS_str_bl, DL.eqS_str_str, DL.eqS_str_lst, DL.eqS_str_tup, DL.eqS_lst_non, DL.eqS_lst_int, DL.eqS_lst_bl, DL.eqS_lst_str, DL.eqS_lst_lst, DL.eqS_lst_tup, DL.eqS_tup_non, DL.eqS_tup_int, DL.eqS_tup_bl, DL.eqS_tup_str, DL.eqS_tup_lst, DL.eqS_tup_tup, DL.eqS_obj_non, DL.eqS_non_obj, DL.eqS_obj_int, DL.eqS_int_obj, DL.eqS_obj_bl, DL.eqS_bl_obj, DL.eqS_obj_str, DL.eqS_str_obj, DL.eqS_obj_lst, DL.eqS_lst_obj, DL.eqS_obj_tup, DL.eqS_tup_obj, DL.eqS_obj_obj, DL.oInN_eq, DL.inR_lst, DL.inR_tup, DL.inR_str, DL.flatD_non, DL.flatD_bl, DL.flatD_int, DL.flatD_str, DL.asB_bl, DL.isN_non, DL.isN_bl, DL.isN_int, DL.isN_str, DL.isN_lst, DL.isN_tup, DL.isN_dic, DL.isN_scr, DL.isN_ty, DL.isN_obj, DL.frz_non, DL.frz_bl, DL.frz_int, DL.frz_str, DL.frz_lst, DL.frz_tup, DL.frz_dic, DL.frz_scr, DL.frz_ty, DL.oIx_eq, DL.ixR_lst, DL.ixR_tup, DL.ixR_scr, DL.ixR_str, DL.ixR_dic, DL.nth_0, DL.nth_1, DL.nth_2, DL.nth_3, DL.oSl_eq, DL.slR_lst, DL.slR_tup, DL.slR_str, DL.dPart_eq, DL.partR_int, DL.on1_cons, DL.on2_cons, DL.lenD_lst, DL.lenD_tup, DL.lenD_scr, DL.lenD_str, DL.intD_int, DL.intD_bl, DL.strD_int, DL.int2_int, DL.listM_lst, DL.listF_lst, DL.listM_tup, DL.listF_tup, DL.dictM_dic, DL.isiD_ty, DL.oAppend_obj, DL.oInsert_obj, DL.oPop_obj, DL.oPopAt_obj, DL.isLst_eq, DL.isLstR_lst, DL.isStr_str, DL.oSplit_str, DL.oJoin_str, DL.itemsOf_lst, DL.itemsOf_tup, DL.itemsOf_str, DL.rng1_int, DL.enumOf_lst, DL.two_tup, DL.insIs_obj, DL.getFld_obj, DL.setFld_obj, DL.putDic_obj, DL.isB_str_non, DL.isB_str_bl, DL.isB_str_int, DL.isB_str_str, DL.isB_str_lst, DL.isB_str_tup, DL.isB_str_dic, DL.isB_int_non, DL.isB_int_bl, DL.isB_int_int, DL.isB_int_str, DL.isB_int_lst, DL.isB_int_tup, DL.isB_int_dic, DL.isB_bool_non, DL.isB_bool_bl, DL.isB_bool_int, DL.isB_bool_str, DL.isB_bool_lst, DL.isB_bool_tup, DL.isB_bool_dic, DL.isB_list_non, DL.isB_list_bl, DL.isB_list_int, DL.isB_list_str, DL.isB_list_lst, DL.isB_list_tup, DL.isB_list_dic, DL.isB_tuple_non, DL.isB_tuple_bl, DL.isB_tuple_int, DL.isB_tuple_str, DL.isB_tuple_lst, DL.isB_tuple_tup, DL.isB_tuple_dic, Bool.cond_true, Bool.cond_false, L2.CDiv, Int.reduceLT, Int.reduceLE, true_and, and_true, cond_true, cond_false, List.map_cons, List.map_nil, List.set_cons_zero, List.set_cons_succ, List.set_nil, DL.cpow_109, DL.pow_109, DL.frz_set_lst, DL.frz_set_dic, Bool.not_true, Bool.not_false, DL.itemsOf_obj, DL.enumOf_obj, DL.all_still])
/-- the wishes as texts -/
def tr : Str := "read"
def tw : Str := "write"
theorem tr_ne_tw : ¬ tr = tw := by decide +kernel
theorem tw_ne_tr : ¬ tw = tr := by decide +kernel
/-- a cell of the script -/
def cellAt (ns : List Int) (k : Int) : Int := (ns[k.toNat]?).getD 0
/-- the signs of names -/
def signsL : List Nat := (Str.ofString "abcdefghijklmnopqrstuvwxyz0123456789").cps.toList
def nameOk (z : Str) : Bool := decide (1 ≤ z.length) && decide (z.length ≤ 12) && z.cps.toList.all fun c => decide (c ∈ signsL)
def isName : D → Bool
  | .str z => nameOk z
  | _ => false
def isWish : D → Bool
  | .str z => decide (z = Str.ofString "read") || decide (z = Str.ofString "write")
  | _ => false
/-- data whose kind is looked at -/
def okD : D → Bool
  | .scr _ => false
  | .obj _ => false
  | .ty _ => false
  | _ => true
theorem okD_non : okD .non = true := rfl
theorem okD_bl (b : Bool) : okD (.bl b) = true := rfl
theorem okD_int (b : Int) : okD (.int b) = true := rfl
theorem okD_str (b : Str) : okD (.str b) = true := rfl
theorem okD_lst (b : List D) : okD (.lst b) = true := rfl
theorem okD_tup (b : List D) : okD (.tup b) = true := rfl
theorem okD_dic (b : List (Str × D)) : okD (.dic b) = true := rfl
-- SIMP okD_non okD_bl okD_int okD_str okD_lst okD_tup okD_dic
theorem ofStr_ne {a b : Str} (h : decide (a = b) = false) : ¬ a = b := of_decide_eq_false h
theorem signs_len : (Str.ofString "abcdefghijklmnopqrstuvwxyz0123456789").cps.toList.length = 36 := by decide +kernel
def signAt (c : Int) : Nat := (signsL[(c % 36).toNat]?).getD 0
theorem signAt_mem (c : Int) : signAt c ∈ signsL := by
  have h1 := Int.emod_nonneg c (show (36 : Int) ≠ 0 by decide)
  have h2 := Int.emod_lt_of_pos c (show (0 : Int) < 36 by decide)
  have hl : (c % 36).toNat < signsL.length := by
    have : signsL.length = 36 := signs_len
    omega
  unfold signAt
  rw [List.getElem?_eq_getElem hl]
  exact List.getElem_mem hl
theorem nth_sign (c : Int) : nth signsL (c % 36) = some (signAt c) := by
  have h1 := Int.emod_nonneg c (show (36 : Int) ≠ 0 by decide)
  have h2 := Int.emod_lt_of_pos c (show (0 : Int) < 36 by decide)
  have hl : (c % 36).toNat < signsL.length := by
    have : signsL.length = 36 := signs_len
    omega
  rw [nth_toNat _ h1]
  unfold signAt
  rw [List.getElem?_eq_getElem hl]
  rfl
/-! one in the line: a name, whether that one wishes to read, how often passed -/
structure Wt where
  name : Str
  rd : Bool
  n : Int
def wishS (b : Bool) : Str := cond b (Str.ofString "read") (Str.ofString "write")
theorem wishS_t : wishS true = Str.ofString "read" := by unfold wishS; rw [cond_true]
theorem wishS_f : wishS false = Str.ofString "write" := by unfold wishS; rw [cond_false]
theorem wishS_read (b : Bool) : decide (wishS b = Str.ofString "read") = b := by cases b <;> decide +kernel
theorem wishS_write (b : Bool) : decide (wishS b = Str.ofString "write") = !b := by cases b <;> decide +kernel
def eW (w : Wt) : D := .tup [.str w.name, .str (wishS w.rd), .int w.n]
def eLine (l : List Wt) : List D := l.map eW
def optI : Option Nat → D
  | none => .non
  | some p => .int (p : Int)
/-- what is to be read is the list ds, whether it may change or not -/
def Vw (d : D) (ds : List D) (M : Mem) : Prop := d = .lst ds ∨ ∃ a, d = .obj a ∧ M a = some (.lst ds)
theorem Vw.lst (ds : List D) (M : Mem) : Vw (.lst ds) ds M := .inl rfl
theorem Vw.obj {a : Addr} {ds : List D} {M : Mem} (h : M a = some (.lst ds)) : Vw (.obj a) ds M := .inr ⟨a, rfl, h⟩
theorem Vw.res {d : D} {ds : List D} {M : Mem} (h : Vw d ds M) : res M d = .lst ds := by
  rcases h with rfl | ⟨a, rfl, h⟩
  · rfl
  · exact res_obj h
theorem Vw.sub {d : D} {ds : List D} {M M' : Mem} (h : Vw d ds M) (s : M.Sub M') : Vw d ds M' := by
  rcases h with rfl | ⟨a, rfl, h⟩
  · exact .inl rfl
  · exact .inr ⟨a, rfl, s a _ h⟩
theorem Vw.enum {d : D} {ds : List D} {M : Mem} (h : Vw d ds M) {F : List D → (Mem → Prop) → Prop} (k : ∀ P : Mem → Prop, P M → F (enumD 0 ds) P) : enumOf [d] M F := by
  rcases h with rfl | ⟨a, rfl, h⟩
  · exact k _ trivial
  · rw [enumOf_obj, h]
    exact k _ h
theorem Vw.eqS_lst {d : D} {ds es : List D} {M : Mem} (h : Vw d ds M) : eqS d (.lst es) = none := by
  rcases h with rfl | ⟨a, rfl, h⟩ <;> rfl
theorem nth_eLine {l : List Wt} {i : Int} (h0 : 0 ≤ i) {w : Wt} (h : l[i.toNat]? = some w) : nth (eLine l) i = some (eW w) := by
  rw [nth_toNat _ h0]
  unfold eLine
  rw [List.getElem?_map, h]
  rfl
/-! who begins -/
def canB (s r : Int) (w rd : Bool) : Bool := cond rd (!w && decide (r < s)) (!w && decide (r = 0))
def firstReader (l : List Wt) : Option Nat := l.findIdx? (·.rd)
def nextPlace (l : List Wt) (s p r : Int) (w : Bool) : Option Nat :=
  match l with
  | [] => none
  | x :: _ =>
    if canB s r w x.rd = true then some 0
    else if x.rd = true ∨ r = 0 then none
    else match firstReader l with
      | none => none
      | some k => if canB s r w true = false then none else if (l.take k).any (fun o => decide (p ≤ o.n)) = true then none else some k
/-! ranges, equal things -/
theorem rangeD_len (n : Nat) : (rangeD 0 n).length = n := by unfold rangeD; rw [List.length_map, List.length_range]
theorem rangeD_get {n k : Nat} {x : D} (h : (rangeD 0 n)[k]? = some x) : k < n ∧ x = .int (k : Int) := by
  unfold rangeD at h
  rw [List.getElem?_map] at h
  by_cases hk : k < n
  · rw [List.getElem?_range hk] at h
    exact ⟨hk, by simpa using h.symm⟩
  · rw [List.getElem?_eq_none (by rw [List.length_range]; omega)] at h
    cases h
theorem eqv_str (a b : Str) : D.eqv (.str a) (.str b) = decide (a = b) := by
  show (a == b) = _
  by_cases h : a = b
  · subst h; rw [beq_self_eq_true, decide_eq_true rfl]
  · rw [beq_eq_false_iff_ne.mpr h, decide_eq_false h]
theorem eqv_int (a b : Int) : D.eqv (.int a) (.int b) = decide (a = b) := by
  show (a == b) = _
  by_cases h : a = b
  · subst h; rw [beq_self_eq_true, decide_eq_true rfl]
  · rw [beq_eq_false_iff_ne.mpr h, decide_eq_false h]
theorem eqv_lst_cons (x y : D) (xs ys : List D) : D.eqv (.lst (x :: xs)) (.lst (y :: ys)) = (D.eqv x y && D.eqv (.lst xs) (.lst ys)) := rfl
theorem eqv_lst_nil : D.eqv (.lst []) (.lst []) = true := rfl
theorem eqv_lst_nc (y : D) (ys : List D) : D.eqv (.lst []) (.lst (y :: ys)) = false := rfl
theorem eqv_lst_cn (y : D) (ys : List D) : D.eqv (.lst (y :: ys)) (.lst []) = false := rfl
theorem eqv_tup (xs ys : List D) : D.eqv (.tup xs) (.tup ys) = D.eqv (.lst xs) (.lst ys) := rfl
/-- equal, as the lists that they were made of -/
theorem eqv_map {α : Type} (g : α → D) (hg : ∀ a b, D.eqv (g a) (g b) = true ↔ a = b) : ∀ xs ys : List α, D.eqv (.lst (xs.map g)) (.lst (ys.map g)) = true ↔ xs = ys
  | [], [] => ⟨fun _ => rfl, fun _ => rfl⟩
  | x :: xs, [] => ⟨(fun h => nomatch (show false = true from h)), (fun h => nomatch h)⟩
  | [], y :: ys => ⟨(fun h => nomatch (show false = true from h)), (fun h => nomatch h)⟩
  | x :: xs, y :: ys => by
    rw [List.map_cons, List.map_cons, eqv_lst_cons, Bool.and_eq_true, hg x y, eqv_map g hg xs ys, List.cons.injEq]
theorem wishS_inj {a b : Bool} (h : wishS a = wishS b) : a = b := by
  have := wishS_read a
  rw [h, wishS_read b] at this
  exact this.symm
theorem eqv_eW (a b : Wt) : D.eqv (eW a) (eW b) = true ↔ a = b := by
  unfold eW
  rw [eqv_tup, eqv_lst_cons, eqv_lst_cons, eqv_lst_cons, eqv_str, eqv_str, eqv_int, eqv_lst_nil]
  cases a with | mk a1 a2 a3 => cases b with | mk b1 b2 b3 =>
  simp only [Bool.and_eq_true, decide_eq_true_eq, Wt.mk.injEq, and_true]
  exact ⟨fun ⟨h1, h2, h3⟩ => ⟨h1, wishS_inj h2, h3⟩, fun ⟨h1, h2, h3⟩ => ⟨h1, by rw [h2], h3⟩⟩
theorem eqv_eLine (a b : List Wt) : D.eqv (.lst (eLine a)) (.lst (eLine b)) = true ↔ a = b := eqv_map eW eqv_eW a b
theorem flat_eLine (l : List Wt) : flatN 9 (.lst (eLine l)) = true := by
  rw [flatN_lst]
  exact flat_map _ _ (fun w => by unfold eW; rw [flatN_tup, flatL_cons, flatL_cons, flatL_cons, flatN_str, flatN_str, flatN_int, flatL_nil]; rfl) l
theorem flat_names (l : List Str) : flatN 9 (.lst (l.map .str)) = true := by
  rw [flatN_lst]
  exact flat_map _ _ (fun w => flatN_str _ _) l
theorem len_eLine (l : List Wt) : (eLine l).length = l.length := List.length_map _
theorem nth_eL {l : List Wt} {k : Nat} {w : Wt} (h : l[k]? = some w) : nth (eLine l) (k : Int) = some (eW w) := nth_eLine (by omega) (by rw [Int.toNat_natCast]; exact h)
theorem nth_mod {α : Type} (xs : List α) (x : Int) (n : Nat) (h : xs.length = n) (h0 : 0 < n) : ∃ d ∈ xs, nth xs (x % (n : Int)) = some d := by
  have h1 := Int.emod_nonneg x (show (n : Int) ≠ 0 by omega)
  have h2 := Int.emod_lt_of_pos x (show (0 : Int) < (n : Int) by omega)
  rw [nth_toNat _ h1]
  have : (x % (n : Int)).toNat < xs.length := by omega
  exact ⟨_, List.getElem_mem this, List.getElem?_eq_getElem this⟩
theorem nth_names {names : List Str} {k : Nat} (h : k < names.length) : ∃ z ∈ names, nth (names.map D.str) (k : Int) = some (.str z) := by
  rw [nth_nat, List.getElem?_map, List.getElem?_eq_getElem h]
  exact ⟨_, List.getElem_mem h, rfl⟩
theorem res_set_lst {M : Mem} {p : Addr} {ds : List D} : res (M.set p (.lst ds)) (.obj p) = .lst ds := res_obj Mem.set_same
-- SIMP res_set_lst Mem.set_same Mem.set_set
/-! names in lists of names -/
theorem inD_names (z : Str) (l : List Str) : inD (.str z) (l.map .str) = decide (z ∈ l) := by
  unfold inD
  induction l with
  | nil => rfl
  | cons y l ih =>
    rw [List.map_cons, List.any_cons, ih]
    show ((y == z) || decide (z ∈ l)) = decide (z ∈ y :: l)
    by_cases h : y = z
    · subst h; simp
    · rw [beq_eq_false_iff_ne.mpr h, Bool.false_or]
      by_cases h2 : z ∈ l
      · rw [decide_eq_true h2, decide_eq_true (List.mem_cons_of_mem _ h2)]
      · rw [decide_eq_false h2, decide_eq_false (fun hh => by
          rcases List.mem_cons.mp hh with e | e
          · exact h e.symm
          · exact h2 e)]
theorem flatD_names (l : List Str) : (l.map D.str).all flatD = true := by
  rw [List.all_map]
  exact List.all_eq_true.mpr fun _ _ => rfl
/-- the first word of a tuple -/
def fst : D → D
  | .tup (d :: _) => d
  | _ => .non
theorem fst_eLine (l : List Wt) : (eLine l).map fst = (l.map (·.name)).map .str := by
  unfold eLine
  rw [List.map_map, List.map_map]
  rfl
theorem len_le_of_subset {α : Type} [DecidableEq α] : ∀ {A B : List α}, A.Nodup → (∀ x ∈ A, x ∈ B) → A.length ≤ B.length
  | [], _, _, _ => Nat.zero_le _
  | x :: A, B, hn, hs => by
    have hx := hs x (List.mem_cons_self ..)
    have hn := List.nodup_cons.mp hn
    have := len_le_of_subset (A := A) (B := B.erase x) hn.2 fun y hy => by
      refine (List.mem_erase_of_ne ?_).mpr (hs y (List.mem_cons_of_mem _ hy))
      rintro rfl
      exact hn.1 hy
    rw [List.length_erase_of_mem hx] at this
    have := List.length_pos_of_mem hx
    rw [List.length_cons]
    omega
theorem fresh_of {α : Type} [DecidableEq α] {A B : List α} (hn : A.Nodup) (h : B.length < A.length) : ∃ x ∈ A, x ∉ B := by
  refine Classical.byContradiction fun hh => ?_
  have := len_le_of_subset hn (B := B) fun x hx => Classical.byContradiction fun hb => hh ⟨x, hx, hb⟩
  omega
/-- all signs are signs of names -/
def good (z : Str) : Prop := ∀ c ∈ z.cps.toList, c ∈ signsL
theorem good_cut {z : Str} (h : good z) (lo hi : Option Int) : good (cutS z lo hi) := fun c hc => h c (List.mem_of_mem_drop (List.mem_of_mem_take (by simpa [cutS] using hc)))
theorem app_list (a b : Str) : (a ++ b).cps.toList = a.cps.toList ++ b.cps.toList := by
  show (a.cps ++ b.cps).toList = _
  exact Array.toList_append
theorem good_app {a b : Str} (h : good a) (k : good b) : good (a ++ b) := fun c hc => by
  rw [app_list] at hc
  rcases List.mem_append.mp hc with q | q
  · exact h c q
  · exact k c q
theorem good_one (c : Int) : good ⟨#[signAt c]⟩ := fun x hx => by
  have : x = signAt c := by simpa using hx
  subst this
  exact signAt_mem c
theorem str_len (z : Str) : z.cps.toList.length = z.length := by
  rw [Array.length_toList]; rfl
theorem nameOk_of {z : Str} (h1 : 1 ≤ z.length) (h2 : z.length ≤ 12) (h : good z) : nameOk z = true := by
  unfold nameOk
  rw [decide_eq_true h1, decide_eq_true h2]
  simp only [Bool.true_and, List.all_eq_true]
  exact fun c hc => decide_eq_true (h c hc)
theorem nameOk_good {z : Str} (h : nameOk z = true) : good z ∧ 1 ≤ z.length ∧ z.length ≤ 12 := by
  unfold nameOk at h
  simp only [Bool.and_eq_true, decide_eq_true_eq, List.all_eq_true] at h
  exact ⟨fun c hc => h.2 c hc, h.1.1, h.1.2⟩
theorem cut_hi_len (z : Str) {k : Int} (h : 0 ≤ k) : (cutS z none (some k)).length = min k.toNat z.length := by
  obtain ⟨n, rfl⟩ := Int.eq_ofNat_of_zero_le h
  show (((z.cps.toList.drop (HT.sIx z.length 0 none)).take (HT.sIx z.length z.length (some (n : Int)) - HT.sIx z.length 0 none)).toArray).size = _
  rw [HT.sIx_none, HT.sIx_nat, List.size_toArray, List.length_take, List.length_drop, str_len]
  simp only [Int.toNat_natCast]
  omega
theorem cut_lo_len (z : Str) {k : Int} (h : 0 ≤ k) : (cutS z (some k) none).length = z.length - min k.toNat z.length := by
  obtain ⟨n, rfl⟩ := Int.eq_ofNat_of_zero_le h
  show (((z.cps.toList.drop (HT.sIx z.length 0 (some (n : Int)))).take (HT.sIx z.length z.length none - HT.sIx z.length 0 (some (n : Int)))).toArray).size = _
  rw [HT.sIx_none, HT.sIx_nat, List.size_toArray, List.length_take, List.length_drop, str_len]
  simp only [Int.toNat_natCast]
  omega
theorem num_good {n : Nat} (h : n < 100) : good (Str.ofString (toString (n : Int))) ∧ 1 ≤ (Str.ofString (toString (n : Int))).length ∧ (Str.ofString (toString (n : Int))).length ≤ 2 := by
  have e : (Str.ofString (toString ((n : Nat) : Int))).cps.toList = TL.numL n := TL.tl_num n
  have hl : (Str.ofString (toString ((n : Nat) : Int))).length = (TL.numL n).length := by rw [← e, str_len]
  refine ⟨fun c hc => ?_, ?_, ?_⟩
  · rw [e] at hc
    have hd := TL.numL_digits n c hc
    have all : ∀ d : Nat, d < 58 → 48 ≤ d → d ∈ signsL := by decide +kernel
    exact all c (by omega) hd.1
  · rw [hl]
    have := TL.numL_ne n
    cases q : TL.numL n with
    | nil => exact absurd q this
    | cons _ _ => simp
  · rw [hl]
    exact TL.numL_len (k := 2) (by decide) (by omega)
/-- a comprehension over a range -/
theorem lc_rangeD {i : Nat} {te : DE} {δ : DS} {M : Mem} {P : Mem → Prop} {Q : QD} {n : Nat} (g : Nat → D)
    (h2 : ∀ k, k < n → ∀ M', M.Sub M' → ∀ Qd : QD, Qd (g k) M' → te (δ.set i (some (.int (k : Int)))) M' Qd fun _ _ _ => False)
    (h : Q (.lst ((List.range n).map g)) M) (hP : ∀ M', M.Sub M' → P M' := by exact fun _ _ => trivial) : ∀ D0, M D0 = none → lcL D0 i dYes te δ P (fun M2 => frz (.obj D0) M2 Q) (rangeD 0 n) [] (M.set D0 (.lst [])) := by
  refine lc_map (fun x => match x with | .int j => g j.toNat | _ => .non) (fun x hx M' hs Qd q => ?_) ?_ hP
  · unfold rangeD at hx
    obtain ⟨k, hk, rfl⟩ := List.mem_map.mp hx
    have hk := List.mem_range.mp hk
    have e : (0 : Int) + (k : Int) = (k : Int) := Int.zero_add _
    rw [e] at q ⊢
    exact h2 k hk M' hs Qd q
  · unfold rangeD
    rw [List.map_map]
    have : ((fun x => match x with | D.int j => g j.toNat | _ => .non) ∘ fun i : Nat => D.int (0 + (i : Int))) = g := by
      funext k
      show g ((0 : Int) + (k : Int)).toNat = g k
      congr 1
      omega
    rw [this]
    exact h
theorem Vw.eqS {d e : D} {ds es : List D} {M M' : Mem} (h : Vw d ds M) (k : Vw e es M') : DL.eqS d e = none := by
  rcases h with rfl | ⟨a, rfl, h⟩ <;> rcases k with rfl | ⟨b, rfl, k⟩ <;> rfl
theorem filter_no {α : Type} (xs : List α) : xs.filter (fun _ => false) = [] := by
  rw [List.filter_eq_nil_iff]
  intro _ _ h
  cases h
theorem Vw.items {d : D} {ds : List D} {M : Mem} (h : Vw d ds M) {F : List D → (Mem → Prop) → Prop} (k : ∀ P : Mem → Prop, (∀ M', M.Sub M' → P M') → F ds P) : itemsOf d M F := by
  rcases h with rfl | ⟨a, rfl, h⟩
  · exact k _ fun _ _ => trivial
  · rw [itemsOf_obj, h]
    exact k _ fun M' s => s a _ h
/-! rows of journals -/
inductive Rw where
  | came (z : Str) (rd : Bool)
  | begins (z : Str) (rd : Bool)
  | left (z : Str)
  | asked (z : Str)
  | eased (z : Str)
namespace Rw
def name : Rw → Str
  | came z _ => z
  | begins z _ => z
  | left z => z
  | asked z => z
  | eased z => z
def words : Rw → List Str
  | came z b => [Str.ofString "came", z, wishS b]
  | begins z b => [Str.ofString "begins", z, wishS b]
  | left z => [Str.ofString "left", z]
  | asked z => [Str.ofString "asked", z]
  | eased z => [Str.ofString "eased", z]
end Rw
def eR (r : Rw) : D := .tup (r.words.map .str)
def eRows (l : List Rw) : List D := l.map eR
theorem words_inj {a b : Rw} (h : a.words = b.words) : a = b := by
  cases a <;> cases b <;> simp only [Rw.words, List.cons.injEq, and_true, and_false, reduceCtorEq] at h
  all_goals first
    | exact absurd h.1 (by decide +kernel)
    | (obtain ⟨_, rfl, h⟩ := h; rw [wishS_inj h])
    | (obtain ⟨_, rfl⟩ := h; rfl)
theorem eqv_strs (a b : List Str) : D.eqv (.lst (a.map .str)) (.lst (b.map .str)) = true ↔ a = b := eqv_map .str (fun x y => by rw [eqv_str, decide_eq_true_iff]) a b
theorem eqv_eR (a b : Rw) : D.eqv (eR a) (eR b) = true ↔ a = b := by
  unfold eR
  rw [eqv_tup, eqv_strs]
  exact ⟨words_inj, fun h => by rw [h]⟩
theorem eqv_eRows (a b : List Rw) : D.eqv (.lst (eRows a)) (.lst (eRows b)) = true ↔ a = b := eqv_map eR eqv_eR a b
theorem flat_strs (n : Nat) (l : List Str) : flatL n (l.map .str) = true := flat_map _ _ (fun w => flatN_str _ _) l
theorem flat_eRows (l : List Rw) : flatN 9 (.lst (eRows l)) = true := by
  rw [flatN_lst]
  exact flat_map _ _ (fun r => by unfold eR; rw [flatN_tup]; exact flat_strs _ _) l
theorem len_eRows (l : List Rw) : (eRows l).length = l.length := List.length_map _
theorem eRows_app (a b : List Rw) : eRows (a ++ b) = eRows a ++ eRows b := List.map_append
/-! plain signs -/
def plain (z : Str) : Prop := ∀ c ∈ z.cps.toList, c < 256
theorem good_plain {z : Str} (h : good z) : plain z := fun c hc => by
  have all : ∀ d ∈ signsL, d < 256 := by decide +kernel
  exact all c (h c hc)
theorem plain_app {a b : Str} (h : plain a) (k : plain b) : plain (a ++ b) := fun c hc => by
  rw [app_list] at hc
  rcases List.mem_append.mp hc with q | q
  · exact h c q
  · exact k c q
theorem strOk_plain {z : Str} (h : plain z) (k : z.length ≤ sizeLine) : strOk z = true := strOk_iff.mpr ⟨fun c hc => by have := h c hc; omega, k⟩
theorem mem_joinL {S : List Nat} {c : Nat} : ∀ {ps : List (List Nat)}, c ∈ TL.joinL S ps → c ∈ S ∨ ∃ p ∈ ps, c ∈ p
  | [], h => by cases h
  | [p], h => .inr ⟨p, List.mem_singleton.mpr rfl, h⟩
  | p :: q :: r, h => by
    have h : c ∈ p ++ (S ++ TL.joinL S (q :: r)) := h
    rcases List.mem_append.mp h with h | h
    · exact .inr ⟨p, List.mem_cons_self .., h⟩
    · rcases List.mem_append.mp h with h | h
      · exact .inl h
      · rcases mem_joinL h with h | ⟨x, hx, h⟩
        · exact .inl h
        · exact .inr ⟨x, List.mem_cons_of_mem _ hx, h⟩
theorem tl_joinT (y : Str) (parts : List Str) : (Txt.join y parts).cps.toList = TL.joinL y.cps.toList (parts.map fun z => z.cps.toList) := by
  rw [TL.join_eq]
  exact TL.tl_join y parts
theorem plain_join {y : Str} {ps : List Str} (hy : plain y) (h : ∀ p ∈ ps, plain p) : plain (Txt.join y ps) := fun c hc => by
  rw [tl_joinT] at hc
  rcases mem_joinL hc with q | ⟨p, hp, q⟩
  · exact hy c q
  · obtain ⟨z, hz, rfl⟩ := List.mem_map.mp hp
    exact h z hz c q
theorem join_len (y : Str) (ps : List Str) : (Txt.join y ps).length ≤ (ps.map (·.length)).sum + ps.length * y.length := by
  rw [TL.join_eq]
  exact StrLaws.join_length_le y ps
/-! the texts of rows -/
def sp : Str := Str.ofString " "
def nl : Str := Str.ofString "\n"
theorem sp_tl : TL.tl sp = [32] := by decide +kernel
theorem nl_tl : TL.tl nl = [10] := by decide +kernel
theorem sp_len : sp.length = 1 := by decide +kernel
theorem nl_len : nl.length = 1 := by decide +kernel
theorem plain_lit : plain sp ∧ plain nl ∧ plain (Str.ofString "came") ∧ plain (Str.ofString "begins") ∧ plain (Str.ofString "left") ∧ plain (Str.ofString "asked") ∧ plain (Str.ofString "eased") ∧ plain (wishS true) ∧ plain (wishS false) ∧ plain (Str.ofString "") := by
  unfold plain
  decide +kernel
/-- no blank, no line end, not long, plain -/
def wordy (z : Str) : Prop := plain z ∧ 32 ∉ z.cps.toList ∧ 10 ∉ z.cps.toList ∧ z.length ≤ 12
theorem wordy_lit : wordy (Str.ofString "came") ∧ wordy (Str.ofString "begins") ∧ wordy (Str.ofString "left") ∧ wordy (Str.ofString "asked") ∧ wordy (Str.ofString "eased") ∧ wordy (wishS true) ∧ wordy (wishS false) := by
  unfold wordy plain
  decide +kernel
theorem wordy_name {z : Str} (h : nameOk z = true) : wordy z := by
  obtain ⟨h1, h2, h3⟩ := nameOk_good h
  have n1 : (32 : Nat) ∉ signsL := by decide +kernel
  have n2 : (10 : Nat) ∉ signsL := by decide +kernel
  exact ⟨good_plain h1, fun q => n1 (h1 _ q), fun q => n2 (h1 _ q), h3⟩
theorem wordy_words {r : Rw} (h : nameOk r.name = true) : (∀ z ∈ r.words, wordy z) ∧ r.words ≠ [] ∧ r.words.length ≤ 3 := by
  have hz := wordy_name h
  obtain ⟨l1, l2, l3, l4, l5, l6, l7⟩ := wordy_lit
  have hw : ∀ b, wordy (wishS b) := fun b => match b with | true => l6 | false => l7
  cases r <;> refine ⟨fun z hm => ?_, by simp [Rw.words], by simp [Rw.words]⟩ <;> simp only [Rw.words, List.mem_cons, List.not_mem_nil, or_false] at hm
  · rcases hm with rfl | rfl | rfl
    · exact l1
    · exact hz
    · exact hw _
  · rcases hm with rfl | rfl | rfl
    · exact l2
    · exact hz
    · exact hw _
  · rcases hm with rfl | rfl
    · exact l3
    · exact hz
  · rcases hm with rfl | rfl
    · exact l4
    · exact hz
  · rcases hm with rfl | rfl
    · exact l5
    · exact hz
def bodyOf (r : Rw) : Str := Txt.join sp r.words
def lineOf (r : Rw) : Str := bodyOf r ++ nl
def textOf (l : List Rw) : Str := Txt.join (Str.ofString "") (l.map lineOf)
theorem sum_le {l : List Str} {k : Nat} (h : ∀ z ∈ l, z.length ≤ k) : (l.map (·.length)).sum ≤ l.length * k := by
  induction l with
  | nil => simp
  | cons z l ih =>
    rw [List.map_cons, List.sum_cons, List.length_cons, Nat.succ_mul]
    have := h z (List.mem_cons_self ..)
    have := ih fun z hz => h z (List.mem_cons_of_mem _ hz)
    omega
theorem words_size {r : Rw} (h : nameOk r.name = true) : (r.words.map (·.length)).sum + r.words.length * sp.length ≤ 39 := by
  obtain ⟨h1, _, h3⟩ := wordy_words h
  have := sum_le (k := 12) fun z hz => (h1 z hz).2.2.2
  rw [sp_len]
  omega
theorem body_len {r : Rw} (h : nameOk r.name = true) : (bodyOf r).length ≤ 39 := Nat.le_trans (join_len _ _) (words_size h)
theorem body_plain {r : Rw} (h : nameOk r.name = true) : plain (bodyOf r) := plain_join plain_lit.1 fun z hz => ((wordy_words h).1 z hz).1
theorem line_len {r : Rw} (h : nameOk r.name = true) : (lineOf r).length ≤ 40 := by
  unfold lineOf
  rw [len_append, nl_len]
  have := body_len h
  omega
theorem line_plain {r : Rw} (h : nameOk r.name = true) : plain (lineOf r) := plain_app (body_plain h) plain_lit.2.1
theorem lines_size {l : List Rw} (h : ∀ r ∈ l, nameOk r.name = true) : ((l.map lineOf).map (·.length)).sum + (l.map lineOf).length * (Str.ofString "").length ≤ l.length * 40 := by
  have e : (Str.ofString "").length = 0 := by decide +kernel
  rw [e]
  have := sum_le (l := l.map lineOf) (k := 40) fun z hz => by
    obtain ⟨r, hr, rfl⟩ := List.mem_map.mp hz
    exact line_len (h r hr)
  rw [List.length_map] at this
  omega
theorem text_len {l : List Rw} (h : ∀ r ∈ l, nameOk r.name = true) : (textOf l).length ≤ l.length * 40 := Nat.le_trans (join_len _ _) (lines_size h)
theorem text_plain {l : List Rw} (h : ∀ r ∈ l, nameOk r.name = true) : plain (textOf l) := plain_join plain_lit.2.2.2.2.2.2.2.2.2 fun z hz => by
  obtain ⟨r, hr, rfl⟩ := List.mem_map.mp hz
  exact line_plain (h r hr)
theorem joinL_nil : ∀ ps : List (List Nat), TL.joinL [] ps = ps.flatten
  | [] => rfl
  | [p] => by simp [TL.joinL]
  | p :: q :: r => by
    show p ++ ([] ++ TL.joinL [] (q :: r)) = _
    rw [List.nil_append, joinL_nil (q :: r)]
    rfl
theorem text_tl (l : List Rw) : (textOf l).cps.toList = (l.map fun r => (lineOf r).cps.toList).flatten := by
  unfold textOf
  rw [tl_joinT, List.map_map]
  have : (Str.ofString "").cps.toList = [] := by decide +kernel
  rw [this, joinL_nil]
  rfl
theorem text_nil : textOf [] = Str.ofString "" := by
  refine TL.ext_tl ?_
  show (textOf []).cps.toList = _
  rw [text_tl]
  decide +kernel
theorem text_app (l : List Rw) (r : Rw) : textOf (l ++ [r]) = textOf l ++ lineOf r := by
  refine TL.ext_tl ?_
  show (textOf (l ++ [r])).cps.toList = (textOf l ++ lineOf r).cps.toList
  rw [text_tl, app_list, text_tl, List.map_append, List.flatten_append]
  simp
theorem split_body {r : Rw} (h : nameOk r.name = true) : Txt.split (bodyOf r) sp = r.words :=
  TL.split_join (s := 32) (S := []) sp_tl (by decide +kernel) (wordy_words h).2.1 fun p hp => ((wordy_words h).1 p hp).2.1
theorem joinL_ends : ∀ ps : List (List Nat), TL.joinL [10] (ps ++ [[]]) = (ps.map fun p => p ++ [10]).flatten
  | [] => rfl
  | [p] => by simp [TL.joinL]
  | p :: q :: r => by
    show p ++ ([10] ++ TL.joinL [10] (q :: (r ++ [[]]))) = _
    rw [show q :: (r ++ [[]]) = (q :: r) ++ [[]] from rfl, joinL_ends (q :: r), ← List.append_assoc]
    rfl
theorem body_no_nl {r : Rw} (h : nameOk r.name = true) : 10 ∉ (bodyOf r).cps.toList := fun hm => by
  unfold bodyOf at hm
  rw [tl_joinT] at hm
  rcases mem_joinL hm with q | ⟨p, hp, q⟩
  · have : (10 : Nat) ∉ sp.cps.toList := by decide +kernel
    exact this q
  · obtain ⟨z, hz, rfl⟩ := List.mem_map.mp hp
    exact ((wordy_words h).1 z hz).2.2.1 q
theorem split_text {l : List Rw} (h : ∀ r ∈ l, nameOk r.name = true) : Txt.split (textOf l) nl = l.map bodyOf ++ [Str.ofString ""] := by
  have e : textOf l = Txt.join nl (l.map bodyOf ++ [Str.ofString ""]) := by
    refine TL.ext_tl ?_
    show (textOf l).cps.toList = _
    rw [text_tl]
    show _ = (Txt.join nl _).cps.toList
    rw [tl_joinT, List.map_append, List.map_map]
    have e1 : nl.cps.toList = [10] := nl_tl
    have e2 : ([Str.ofString ""].map fun z => z.cps.toList) = [[]] := by decide +kernel
    rw [e1, e2, joinL_ends, List.map_map]
    congr 1
    refine List.map_congr_left fun r hr => ?_
    show (bodyOf r ++ nl).cps.toList = (bodyOf r).cps.toList ++ [10]
    rw [app_list, e1]
  rw [e]
  refine TL.split_join (s := 10) (S := []) nl_tl (by decide +kernel) (by simp) fun p hp => ?_
  rcases List.mem_append.mp hp with q | q
  · obtain ⟨r, hr, rfl⟩ := List.mem_map.mp q
    exact body_no_nl (h r hr)
  · rw [List.mem_singleton.mp q]
    decide +kernel
theorem dcut_take {α : Type} (xs : List α) (k : Nat) : dcut xs none (some (k : Int)) = xs.take k := by
  unfold dcut
  rw [HT.sIx_none, HT.sIx_nat, List.drop_zero, Nat.sub_zero]
  by_cases h : k ≤ xs.length
  · rw [Nat.min_eq_left h]
  · rw [Nat.min_eq_right (by omega), List.take_of_length_le (Nat.le_refl _), List.take_of_length_le (by omega)]
theorem dcut_drop {α : Type} (xs : List α) (k : Nat) : dcut xs (some ((k : Int) + 1)) none = xs.drop (k + 1) := by
  unfold dcut
  have e : ((k : Int) + 1) = ((k + 1 : Nat) : Int) := by omega
  rw [HT.sIx_none, e, HT.sIx_nat]
  by_cases h : k + 1 ≤ xs.length
  · rw [Nat.min_eq_left h, List.take_of_length_le (by rw [List.length_drop]; omega)]
  · rw [Nat.min_eq_right (by omega), List.drop_of_length_le (Nat.le_refl _), List.drop_of_length_le (by omega), List.take_nil]
theorem take_eLine (l : List Wt) (k : Nat) : (eLine l).take k = eLine (l.take k) := List.map_take.symm
theorem drop_eLine (l : List Wt) (k : Nat) : (eLine l).drop k = eLine (l.drop k) := List.map_drop.symm
theorem eLine_app (a b : List Wt) : eLine (a ++ b) = eLine a ++ eLine b := List.map_append
theorem set_none {M : Mem} {a p : Addr} {o : MO} (h : M.set a o p = none) : M p = none := by
  by_cases e : p = a
  · subst e
    rw [Mem.set_same] at h
    cases h
  · rw [Mem.set_ne e] at h
    exact h

local macro_rules | `(tactic| walk_at "dl") => `(tactic| try simp -implicitDefEqProofs only [DL.dNext, DL.dSeq, DL.dExpr, DL.dRet, DL.dIfS, DL.dSet, DL.dCont, DL.dRaise, DL.dFor, DL.dgName, DL.dgPair, DL.dTry, DL.dFn, DL.dMth, DL.dMk, DL.dFld, DL.dFldS, DL.dPut, DL.dVar, DL.slot, DL.dC, DL.dOp, DL.dUn, DL.oSub, DL.oMul, DL.oDiv, DL.oMod, DL.oPow, DL.oLt, DL.oLe, DL.oGt, DL.oGe, DL.oEq, DL.oNe, DL.oIn, DL.oNotIn, DL.dB, DL.dIsN, DL.dChain, DL.dAnd, DL.dOr, DL.dNot, DL.dAndV, DL.dOrV, DL.dNotV, DL.dIf, DL.dNil, DL.dCons, DL.few, DL.dLst, DL.dTup, DL.dLstM, DL.dFrz, DL.dPairs, DL.dDisp, DL.dDic0, DL.dSl, DL.dNoPart, DL.dCall, DL.dMet0L, DL.dMet, DL.dItems, DL.dRange1, DL.dEnum, DL.dLcM, DL.dwipe, DL.startD, DL.dNever, DL.el_some, DL.elL_lst, DL.elD_dic, DL.elI_ins, DL.res_non, DL.res_bl, DL.res_int, DL.res_str, DL.res_lst, DL.res_tupE, DL.res_dic, DL.res_scr, DL.res_ty, DL.oAdd_eq, DL.addR_int, DL.addR_str, DL.addR_lst, DL.addR_tup, DL.oAddM_eq, DL.addMR_lst, DL.oInt_eq, DL.intR_int, DL.oInt0_eq, DL.int0R_int, DL.oNeg_eq, DL.negR_int, DL.oEqN_eq, DL.eqR_some, DL.eqR_none, DL.eqS_non_non, DL.eqS_non_int, DL.eqS_non_bl, DL.eqS_non_str, DL.eqS_non_lst, DL.eqS_non_tup, DL.eqS_int_non, DL.eqS_int_int, DL.eqS_int_bl, DL.eqS_int_str, DL.eqS_int_lst, DL.eqS_int_tup, DL.eqS_bl_non, DL.eqS_bl_int, DL.eqS_bl_bl, DL.eqS_bl_str, DL.eqS_bl_lst, DL.eqS_bl_tup, DL.eqS_str_non, DL.eqS_str_int, DL.eqS_str_bl, DL.eqS_str_str, DL.eqS_str_lst, DL.eqS_str_tup, DL.eqS_lst_non, DL.eqS_lst_int, DL.eqS_lst_bl, DL.eqS_lst_str, DL.eqS_lst_lst, DL.eqS_lst_tup, DL.eqS_tup_non, DL.eqS_tup_int, DL.eqS_tup_bl, DL.eqS_tup_str, DL.eqS_tup_lst, DL.eqS_tup_tup, DL.eqS_obj_non, DL.eqS_non_obj, DL.eqS_obj_int, DL.eqS_int_obj, DL.eqS_obj_bl, DL.eqS_bl_obj, DL.eqS_obj_str, DL.eqS_str_obj, DL.eqS_obj_lst, DL.eqS_lst_obj, DL.eqS_obj_tup, DL.eqS_tup_obj, DL.eqS_obj_obj, DL.oInN_eq, DL.inR_lst, DL.inR_tup, DL.inR_str, DL.flatD_non, DL.flatD_bl, DL.flatD_int, DL.flatD_str, DL.asB_bl, DL.isN_non, DL.isN_bl, DL.isN_int, DL.isN_str, DL.isN_lst, DL.isN_tup, DL.isN_dic, DL.isN_scr, DL.isN_ty, DL.isN_obj, DL.frz_non, DL.frz_bl, DL.frz_int, DL.frz_str, DL.frz_lst, DL.frz_tup, DL.frz_dic, DL.frz_scr, DL.frz_ty, DL.oIx_eq, DL.ixR_lst, DL.ixR_tup, DL.ixR_scr, DL.ixR_str, DL.ixR_dic, DL.nth_0, DL.nth_1, DL.nth_2, DL.nth_3, DL.oSl_eq, DL.slR_lst, DL.slR_tup, DL.slR_str, DL.dPart_eq, DL.partR_int, DL.on1_cons, DL.on2_cons, DL.lenD_lst, DL.lenD_tup, DL.lenD_scr, DL.lenD_str, DL.intD_int, DL.intD_bl, DL.strD_int, DL.int2_int, DL.listM_lst, DL.listF_lst, DL.listM_tup, DL.listF_tup, DL.dictM_dic, DL.isiD_ty, DL.oAppend_obj, DL.oInsert_obj, DL.oPop_obj, DL.oPopAt_obj, DL.isLst_eq, DL.isLstR_lst, DL.isStr_str, DL.oSplit_str, DL.oJoin_str, DL.itemsOf_lst, DL.itemsOf_tup, DL.itemsOf_str, DL.rng1_int, DL.enumOf_lst, DL.two_tup, DL.insIs_obj, DL.getFld_obj, DL.setFld_obj, DL.putDic_obj, DL.isB_str_non, DL.isB_str_bl, DL.isB_str_int, DL.isB_str_str, DL.isB_str_lst, DL.isB_str_tup, DL.isB_str_dic, DL.isB_int_non, DL.isB_int_bl, DL.isB_int_int, DL.isB_int_str, DL.isB_int_lst, DL.isB_int_tup, DL.isB_int_dic, DL.isB_bool_non, DL.isB_bool_bl, DL.isB_bool_int, DL.isB_bool_str, DL.isB_bool_lst, DL.isB_bool_tup, DL.isB_bool_dic, DL.isB_list_non, DL.isB_list_bl, DL.isB_list_int, DL.isB_list_str, DL.isB_list_lst, DL.isB_list_tup, DL.isB_list_dic, DL.isB_tuple_non, DL.isB_tuple_bl, DL.isB_tuple_int, DL.isB_tuple_str, DL.isB_tuple_lst, DL.isB_tuple_tup, DL.isB_tuple_dic, Bool.cond_true, Bool.cond_false, L2.CDiv, Int.reduceLT, Int.reduceLE, true_and, and_true, cond_true, cond_false, List.map_cons, List.map_nil, List.set_cons_zero, List.set_cons_succ, List.set_nil, DL.cpow_109, DL.pow_109, DL.frz_set_lst, DL.frz_set_dic, Bool.not_true, Bool.not_false, DL.itemsOf_obj, DL.enumOf_obj, DL.all_still, okD_non, okD_bl, okD_int, okD_str, okD_lst, okD_tup, okD_dic, res_set_lst, Mem.set_same, Mem.set_set])
/-! the room -/
structure Rm where
  seats : Int
  patience : Int
  reading : List Str
  alone : Option Str
  asking : Option Str
  waiting : List Wt
  rows : List Rw
def optS : Option Str → D
  | none => .non
  | some z => .str z
def eNames (l : List Str) : D := .lst (l.map .str)
def flds (r : Rm) : List (Str × D) := [("seats", .int r.seats), ("patience", .int r.patience), ("reading", eNames r.reading), ("alone", optS r.alone), ("asking", optS r.asking), ("waiting", .lst (eLine r.waiting)), ("rows", .lst (eRows r.rows))]
local macro_rules | `(tactic| walk_at "lk") => `(tactic| ((try unfold flds); repeat (first | rfl | rw [look, if_neg (by decide +kernel)] | rw [look, if_pos rfl] | rw [dput, if_neg (by decide +kernel)] | rw [dput, if_pos rfl])))
theorem lk_seats (r : Rm) : look (flds r) "seats" = some (.int r.seats) := by walk_at "lk"
theorem lk_patience (r : Rm) : look (flds r) "patience" = some (.int r.patience) := by walk_at "lk"
theorem lk_reading (r : Rm) : look (flds r) "reading" = some (eNames r.reading) := by walk_at "lk"
theorem lk_alone (r : Rm) : look (flds r) "alone" = some (optS r.alone) := by walk_at "lk"
theorem lk_asking (r : Rm) : look (flds r) "asking" = some (optS r.asking) := by walk_at "lk"
theorem lk_waiting (r : Rm) : look (flds r) "waiting" = some (.lst (eLine r.waiting)) := by walk_at "lk"
theorem lk_rows (r : Rm) : look (flds r) "rows" = some (.lst (eRows r.rows)) := by walk_at "lk"
theorem no_is_inside (r : Rm) : (look (flds r) "is_inside" = none) = True := eq_true (by walk_at "lk")
theorem no_is_waiting (r : Rm) : (look (flds r) "is_waiting" = none) = True := eq_true (by walk_at "lk")
theorem no_look (r : Rm) : (look (flds r) "look" = none) = True := eq_true (by walk_at "lk")
theorem no_come (r : Rm) : (look (flds r) "come" = none) = True := eq_true (by walk_at "lk")
theorem no_leave (r : Rm) : (look (flds r) "leave" = none) = True := eq_true (by walk_at "lk")
theorem no_ask (r : Rm) : (look (flds r) "ask" = none) = True := eq_true (by walk_at "lk")
theorem no_ease (r : Rm) : (look (flds r) "ease" = none) = True := eq_true (by walk_at "lk")
theorem no_settled (r : Rm) : (look (flds r) "settled" = none) = True := eq_true (by walk_at "lk")
theorem no_begun (r : Rm) : (look (flds r) "begun" = none) = True := eq_true (by walk_at "lk")
theorem no_readers (r : Rm) : (look (flds r) "readers" = none) = True := eq_true (by walk_at "lk")
theorem no_writer (r : Rm) : (look (flds r) "writer" = none) = True := eq_true (by walk_at "lk")
theorem no_asker (r : Rm) : (look (flds r) "asker" = none) = True := eq_true (by walk_at "lk")
theorem no_line (r : Rm) : (look (flds r) "line" = none) = True := eq_true (by walk_at "lk")
theorem no_passed (r : Rm) : (look (flds r) "passed" = none) = True := eq_true (by walk_at "lk")
theorem no_journal (r : Rm) : (look (flds r) "journal" = none) = True := eq_true (by walk_at "lk")
theorem dp_reading (r : Rm) (l : List Str) : dput (flds r) "reading" (.lst (l.map .str)) = flds { r with reading := l } := by walk_at "lk"
theorem dp_reading0 (r : Rm) : dput (flds r) "reading" (.lst []) = flds { r with reading := [] } := by walk_at "lk"
theorem dp_reading1 (r : Rm) (z : Str) : dput (flds r) "reading" (.lst [.str z]) = flds { r with reading := [z] } := by walk_at "lk"
theorem dp_alone (r : Rm) (z : Str) : dput (flds r) "alone" (.str z) = flds { r with alone := some z } := by walk_at "lk"
theorem dp_alone0 (r : Rm) : dput (flds r) "alone" .non = flds { r with alone := none } := by walk_at "lk"
theorem dp_asking (r : Rm) (z : Str) : dput (flds r) "asking" (.str z) = flds { r with asking := some z } := by walk_at "lk"
theorem dp_asking0 (r : Rm) : dput (flds r) "asking" .non = flds { r with asking := none } := by walk_at "lk"
theorem dp_waiting (r : Rm) (l : List Wt) : dput (flds r) "waiting" (.lst (eLine l)) = flds { r with waiting := l } := by walk_at "lk"
theorem dp_rows (r : Rm) (l : List Rw) : dput (flds r) "rows" (.lst (eRows l)) = flds { r with rows := l } := by walk_at "lk"
theorem few_flds (r : Rm) : few 99 ((flds r).map (·.2)) = True := eq_true (by unfold flds; simp only [List.map_cons, List.map_nil, few])
-- SIMP lk_seats lk_patience lk_reading lk_alone lk_asking lk_waiting lk_rows no_is_inside no_is_waiting no_look no_come no_leave no_ask no_ease no_settled no_begun no_readers no_writer no_asker no_line no_passed no_journal dp_reading dp_reading0 dp_reading1 dp_alone dp_alone0 dp_asking dp_asking0 dp_waiting dp_rows few_flds eNames
def At (A : Adr) (M : Mem) (a : Addr) (r : Rm) : Prop := M a = some (.ins A.Room (flds r))
theorem isN_optS (o : Option Str) : isN (optS o) = o.isNone := by cases o <;> rfl
theorem res_optS {M : Mem} (o : Option Str) : res M (optS o) = optS o := by cases o <;> rfl
theorem optS_some (z : Str) : optS (some z) = .str z := rfl
theorem optS_none : optS none = .non := rfl
-- SIMP isN_optS res_optS optS_some optS_none Option.isNone_none Option.isNone_some
/-- one passed once more -/
def bump (w : Wt) : Wt := { w with n := w.n + 1 }
def insideB (r : Rm) (z : Str) : Bool := decide (z ∈ r.reading) || decide (r.alone = some z)
def waitsB (r : Rm) (z : Str) : Bool := decide (z ∈ r.waiting.map (·.name))
/-- one more begins -/
def begun (r : Rm) : Option ((Str × Bool) × Rm) :=
  match r.asking with
  | some z => if 1 < r.reading.length then none else some ((z, false), { r with alone := some z, asking := none, reading := [] })
  | none => match nextPlace r.waiting r.seats r.patience r.reading.length r.alone.isSome with
    | none => none
    | some k => match r.waiting[k]? with
      | none => none
      | some w => some ((w.name, w.rd), { r with reading := cond w.rd (r.reading ++ [w.name]) r.reading, alone := cond w.rd r.alone (some w.name), waiting := (r.waiting.take k).map bump ++ r.waiting.drop (k + 1) })
def newRm (s p : Int) : Rm := ⟨s, p, [], none, none, [], []⟩
def logB (r : Rm) (p : Str × Bool) : Rm := { r with rows := r.rows ++ [.begins p.1 p.2] }
def logR (r : Rm) (x : Rw) : Rm := { r with rows := r.rows ++ [x] }
/-- how many can begin at most -/
def meas (r : Rm) : Nat := r.waiting.length + cond r.asking.isSome 1 0
/-- all who can begin, begin -/
def settle : Nat → Rm → List (Str × Bool) × Rm
  | 0, r => ([], r)
  | n + 1, r => match begun r with
    | none => ([], r)
    | some (p, r1) => (p :: (settle n (logB r1 p)).1, (settle n (logB r1 p)).2)
def eP (p : Str × Bool) : D := .tup [.str p.1, .str (wishS p.2)]
def ePs (l : List (Str × Bool)) : List D := l.map eP
theorem flat_ePs (l : List (Str × Bool)) : flatN 9 (.lst (ePs l)) = true := by
  rw [flatN_lst]
  exact flat_map _ _ (fun w => by unfold eP; rw [flatN_tup, flatL_cons, flatL_cons, flatN_str, flatN_str, flatL_nil]; rfl) l
def optP : Option (Str × Bool) → D
  | none => .non
  | some p => eP p
/-- a room's weight: what its lists hold and may hold -/
def wgt (r : Rm) : Nat := r.rows.length + r.reading.length + 2 * r.waiting.length + cond r.asking.isSome 2 0
theorem firstReader_lt {l : List Wt} {k : Nat} (h : firstReader l = some k) : k < l.length := by
  unfold firstReader at h
  rw [List.findIdx?_eq_some_iff_getElem] at h
  exact h.1
theorem nextPlace_lt {l : List Wt} {s p r : Int} {w : Bool} {k : Nat} (h : nextPlace l s p r w = some k) : k < l.length := by
  unfold nextPlace at h
  cases l with
  | nil => cases h
  | cons x l =>
    simp only at h
    split at h
    · cases h; exact Nat.zero_lt_succ _
    · split at h
      · cases h
      · cases hf : firstReader (x :: l) with
        | none => rw [hf] at h; cases h
        | some j =>
          rw [hf] at h
          simp only at h
          split at h
          · cases h
          · split at h
            · cases h
            · cases h; exact firstReader_lt hf
theorem begun_spec {r : Rm} {p : Str × Bool} {r1 : Rm} (h : begun r = some (p, r1)) : meas r1 + 1 = meas r ∧ wgt (logB r1 p) ≤ wgt r ∧ r1.rows = r.rows := by
  unfold begun at h
  cases ha : r.asking with
  | some z =>
    rw [ha] at h
    simp only at h
    split at h
    · cases h
    · cases h
      unfold meas wgt logB
      rw [ha]
      simp
      omega
  | none =>
    rw [ha] at h
    simp only at h
    cases hn : nextPlace r.waiting r.seats r.patience r.reading.length r.alone.isSome with
    | none => rw [hn] at h; cases h
    | some k =>
      rw [hn] at h
      simp only at h
      have hk := nextPlace_lt hn
      rw [List.getElem?_eq_getElem hk] at h
      simp only at h
      cases h
      unfold meas wgt logB
      simp only [ha, List.length_append, List.length_map, List.length_take, List.length_drop, Nat.min_eq_left (Nat.le_of_lt hk), List.length_singleton, Option.isSome_none, cond_false]
      refine ⟨by omega, ?_, trivial⟩
      cases (r.waiting[k]).rd <;> simp <;> omega
theorem meas_log (r : Rm) (p : Str × Bool) : meas (logB r p) = meas r := rfl
theorem begun_zero {r : Rm} (h : meas r = 0) : begun r = none := by
  cases hb : begun r with
  | none => rfl
  | some q => have := (begun_spec (p := q.1) (r1 := q.2) hb).1; omega
theorem settle_wgt : ∀ (n : Nat) (r : Rm), wgt (settle n r).2 ≤ wgt r
  | 0, r => Nat.le_refl _
  | n + 1, r => by
    unfold settle
    cases h : begun r with
    | none => exact Nat.le_refl _
    | some q =>
      obtain ⟨p, r1⟩ := q
      exact Nat.le_trans (settle_wgt n (logB r1 p)) (begun_spec h).2.1
def bumpD : D → D
  | .tup [a, b, .int n] => .tup [a, b, .int (n + 1)]
  | _ => .non
theorem bump_eLine (l : List Wt) : (eLine l).map bumpD = eLine (l.map bump) := by
  unfold eLine
  rw [List.map_map, List.map_map]
  exact List.map_congr_left fun w _ => rfl
theorem isName_str {d : D} (h : isName d = true) : ∃ z, d = .str z := by
  cases d <;> first | exact ⟨_, rfl⟩ | cases h
def hereB (r : Rm) : D → Bool
  | .str z => nameOk z && (insideB r z || waitsB r z)
  | _ => false
/-- refusals -/
inductive Rf where
  | name
  | wish
  | known
  | stranger
  | outside
  | reads
  | writes
  | asked
def Rf.at (A : Adr) : Rf → Addr
  | name => A.BadName
  | wish => A.BadWish
  | known => A.Known
  | stranger => A.Stranger
  | outside => A.Outside
  | reads => A.Reads
  | writes => A.Writes
  | asked => A.Asked
/-- what a refusal is of, or the room with who began -/
inductive Out where
  | no (C : Rf)
  | did (l : List (Str × Bool)) (r : Rm)
def doneBy (r : Rm) (x : Rw) : Out := .did (settle (meas r) (logR r x)).1 (settle (meas r) (logR r x)).2
def comeO (r : Rm) (n w : D) : Out :=
  if isName n = false then .no .name else if isWish w = false then .no .wish else
  match n with
  | .str z => if (insideB r z || waitsB r z) = true then .no .known else
    doneBy { r with waiting := r.waiting ++ [⟨z, (match w with | .str y => decide (y = Str.ofString "read") | _ => false), 0⟩] } (.came z (match w with | .str y => decide (y = Str.ofString "read") | _ => false))
  | _ => .no .name
/-- what a deed leaves behind -/
def outQ (A : Adr) (a : Addr) (o : Out) (M : Mem) (Q : QD) (X : Addr → Mem → Prop) : Prop := match o with
  | .no C => X (C.at A) M
  | .did l r => ∀ p, M p = none → Q (.obj p) ((M.set a (.ins A.Room (flds r))).set p (.lst (ePs l)))
theorem isWish_str {d : D} (h : isWish d = true) : ∃ b, d = .str (wishS b) := by
  cases d with
  | str z =>
    have h : (decide (z = Str.ofString "read") || decide (z = Str.ofString "write")) = true := h
    rcases Bool.or_eq_true_iff.mp h with q | q
    · exact ⟨true, by rw [wishS_t, of_decide_eq_true q]⟩
    · exact ⟨false, by rw [wishS_f, of_decide_eq_true q]⟩
  | _ => cases h
def goneR (r : Rm) (z : Str) : Rm := { r with reading := r.reading.filter (fun y => !decide (y = z)), waiting := r.waiting.filter (fun w => !decide (w.name = z)), alone := if r.alone = some z then none else r.alone, asking := if r.asking = some z then none else r.asking }
def leaveO (r : Rm) (n : D) : Out := if hereB r n = false then .no .stranger else match n with
  | .str z => doneBy (goneR r z) (.left z)
  | _ => .no .stranger
def askO (r : Rm) (n : D) : Out := if hereB r n = false then .no .stranger else match n with
  | .str z => if waitsB r z = true then .no .outside else if r.alone.isSome = true then .no .writes else if r.asking.isSome = true then .no .asked else doneBy { r with asking := some z } (.asked z)
  | _ => .no .stranger
def easeO (r : Rm) (n : D) : Out := if hereB r n = false then .no .stranger else match n with
  | .str z => if waitsB r z = true then .no .outside else if r.alone.isNone = true then .no .reads else doneBy { r with alone := none, reading := [z] } (.eased z)
  | _ => .no .stranger
theorem hereB_str {r : Rm} {d : D} (h : hereB r d = true) : ∃ z, d = .str z := by
  cases d <;> first | exact ⟨_, rfl⟩ | cases h
theorem bt_ne {b : Bool} (h : b = true) : ¬ b = false := by rw [h]; exact Bool.true_eq_false.mp
theorem bf_ne {b : Bool} (h : b = false) : ¬ b = true := by rw [h]; exact Bool.false_ne_true
/-! ### what always holds -/
def inNames (r : Rm) : List Str := r.reading ++ r.alone.toList
def wNames (r : Rm) : List Str := r.waiting.map (·.name)
structure Inv (r : Rm) : Prop where
  seats : 1 ≤ r.seats
  rds : (r.reading.length : Int) ≤ r.seats
  nd : (inNames r ++ wNames r).Nodup
  ok : ∀ z ∈ inNames r ++ wNames r, nameOk z = true
  alo : ∀ z, r.alone = some z → r.reading = [] ∧ r.asking = none
  ask : ∀ z, r.asking = some z → z ∈ r.reading
theorem nextPlace_can {l : List Wt} {s p r : Int} {w : Bool} {k : Nat} (h : nextPlace l s p r w = some k) : ∃ v, l[k]? = some v ∧ canB s r w v.rd = true := by
  unfold nextPlace at h
  cases l with
  | nil => cases h
  | cons x l =>
    simp only at h
    split at h
    · rename_i hc
      cases h
      exact ⟨x, rfl, hc⟩
    · split at h
      · cases h
      · cases hf : firstReader (x :: l) with
        | none => rw [hf] at h; cases h
        | some j =>
          rw [hf] at h
          simp only at h
          split at h
          · cases h
          · rename_i hb
            split at h
            · cases h
            · cases h
              unfold firstReader at hf
              rw [List.findIdx?_eq_some_iff_getElem] at hf
              obtain ⟨hj, hr, _⟩ := hf
              refine ⟨_, List.getElem?_eq_getElem hj, ?_⟩
              rw [hr]
              simpa using hb
theorem split_at {α : Type} {l : List α} {k : Nat} {x : α} (h : l[k]? = some x) : l = l.take k ++ x :: l.drop (k + 1) := by
  obtain ⟨hk, e⟩ := List.getElem?_eq_some_iff.mp h
  subst e
  rw [← List.drop_eq_getElem_cons hk, List.take_append_drop]
/-- the names after one has begun -/
theorem names_perm {r : Rm} {k : Nat} {w : Wt} (h : r.waiting[k]? = some w) (rest : List Str) :
    (rest ++ w.name :: ((r.waiting.take k).map bump ++ r.waiting.drop (k + 1)).map (·.name)).Perm (rest ++ wNames r) := by
  refine List.Perm.append_left rest ?_
  unfold wNames
  have e := split_at h
  have e2 : r.waiting.map (·.name) = (r.waiting.take k).map (·.name) ++ w.name :: (r.waiting.drop (k + 1)).map (·.name) := by
    conv => lhs; rw [e]
    rw [List.map_append, List.map_cons]
  have e3 : ((r.waiting.take k).map bump ++ r.waiting.drop (k + 1)).map (·.name) = (r.waiting.take k).map (·.name) ++ (r.waiting.drop (k + 1)).map (·.name) := by
    rw [List.map_append, List.map_map]
    rfl
  rw [e2, e3]
  exact List.perm_middle.symm
theorem begun_inv {r : Rm} (I : Inv r) {p : Str × Bool} {r1 : Rm} (h : begun r = some (p, r1)) : Inv r1 ∧ (inNames r1 ++ wNames r1).Perm (inNames r ++ wNames r) := by
  unfold begun at h
  cases ha : r.asking with
  | some z =>
    rw [ha] at h
    simp only at h
    split at h
    · cases h
    · rename_i hl
      cases h
      have hz := I.ask z ha
      have hr : r.reading = [z] := by
        cases hrd : r.reading with
        | nil => rw [hrd] at hz; cases hz
        | cons y l =>
          rw [hrd] at hz hl
          cases l with
          | cons _ _ => simp at hl
          | nil => rw [List.mem_singleton.mp hz]
      have hal : r.alone = none := by
        cases hq : r.alone with
        | none => rfl
        | some y => have := (I.alo y hq).2; rw [ha] at this; cases this
      have hs := I.seats
      have hnd := I.nd
      have hok := I.ok
      have en : inNames r ++ wNames r = z :: wNames r := by unfold inNames; rw [hr, hal]; rfl
      rw [en] at hnd hok ⊢
      refine ⟨⟨hs, by show (0 : Int) ≤ r.seats; omega, hnd, hok, fun y hy => ⟨rfl, rfl⟩, fun y hy => by cases hy⟩, List.Perm.refl _⟩
  | none =>
    rw [ha] at h
    simp only at h
    cases hn : nextPlace r.waiting r.seats r.patience r.reading.length r.alone.isSome with
    | none => rw [hn] at h; cases h
    | some k =>
      rw [hn] at h
      simp only at h
      obtain ⟨w, hg, hc⟩ := nextPlace_can hn
      rw [hg] at h
      simp only at h
      cases h
      have hal : r.alone = none := by
        cases hq : r.alone with
        | none => rfl
        | some y =>
          rw [hq] at hc
          have c : ∀ b, canB r.seats r.reading.length true b = false := fun b => by cases b <;> rfl
          have hc : canB r.seats r.reading.length true w.rd = true := hc
          rw [c] at hc
          cases hc
      rw [hal] at hc
      have P := names_perm hg r.reading
      have hs := I.seats
      have en : inNames r ++ wNames r = r.reading ++ wNames r := by unfold inNames; rw [hal]; simp
      have hnd := I.nd
      have hok := I.ok
      rw [en] at hnd hok ⊢
      have hnd := P.symm.nodup hnd
      have hok : ∀ z ∈ r.reading ++ w.name :: ((r.waiting.take k).map bump ++ r.waiting.drop (k + 1)).map (·.name), nameOk z = true := fun z hz => hok z (P.mem_iff.mp hz)
      cases hrd : w.rd with
      | true =>
        rw [hrd] at hc
        have hc : decide ((r.reading.length : Int) < r.seats) = true := hc
        have hc := of_decide_eq_true hc
        have el : (r.reading ++ [w.name]) ++ r.alone.toList ++ ((r.waiting.take k).map bump ++ r.waiting.drop (k + 1)).map (·.name) = r.reading ++ w.name :: ((r.waiting.take k).map bump ++ r.waiting.drop (k + 1)).map (·.name) := by rw [hal]; simp
        refine ⟨⟨hs, ?_, ?_, ?_, ?_, ?_⟩, ?_⟩
        · simp only [cond_true, List.length_append, List.length_singleton]
          omega
        · simp only [inNames, wNames, cond_true]
          rw [el]; exact hnd
        · simp only [inNames, wNames, cond_true]
          rw [el]; exact hok
        · intro z hz
          simp only [cond_true] at hz
          rw [hal] at hz; cases hz
        · intro z hz
          cases hz
        · simp only [inNames, wNames, cond_true]
          rw [el]; exact P
      | false =>
        rw [hrd] at hc
        have hc : decide ((r.reading.length : Int) = 0) = true := hc
        have hc := of_decide_eq_true hc
        have hr0 : r.reading = [] := List.length_eq_zero_iff.mp (by omega)
        rw [hr0] at hnd hok P ⊢
        refine ⟨⟨hs, ?_, ?_, ?_, ?_, ?_⟩, ?_⟩
        · simp only [cond_false, List.length_nil]
          omega
        · simp only [inNames, wNames, cond_false]
          exact hnd
        · simp only [inNames, wNames, cond_false]
          exact hok
        · intro z hz
          exact ⟨rfl, rfl⟩
        · intro z hz
          cases hz
        · simp only [inNames, wNames, cond_false]
          exact P
theorem settle_inv : ∀ (n : Nat) (r : Rm), Inv r → Inv (settle n r).2 ∧ (inNames (settle n r).2 ++ wNames (settle n r).2).Perm (inNames r ++ wNames r)
  | 0, r, I => ⟨I, List.Perm.refl _⟩
  | n + 1, r, I => by
    unfold settle
    cases h : begun r with
    | none => exact ⟨I, List.Perm.refl _⟩
    | some q =>
      obtain ⟨p, r1⟩ := q
      obtain ⟨I1, P1⟩ := begun_inv I h
      have I2 : Inv (logB r1 p) := ⟨I1.seats, I1.rds, I1.nd, I1.ok, I1.alo, I1.ask⟩
      obtain ⟨I3, P3⟩ := settle_inv n (logB r1 p) I2
      exact ⟨I3, P3.trans P1⟩
/-- behind the settling nobody can begin -/
theorem settle_rest : ∀ (n : Nat) (r : Rm), meas r ≤ n → begun (settle n r).2 = none
  | 0, r, h => begun_zero (r := r) (by omega)
  | n + 1, r, h => by
    unfold settle
    cases hb : begun r with
    | none => exact hb
    | some q =>
      obtain ⟨p, r1⟩ := q
      exact settle_rest n (logB r1 p) (by rw [meas_log]; have := (begun_spec hb).1; omega)
theorem settle_numbers : ∀ (n : Nat) (r : Rm), (settle n r).2.seats = r.seats ∧ (settle n r).2.patience = r.patience
  | 0, r => ⟨rfl, rfl⟩
  | n + 1, r => by
    unfold settle
    cases hb : begun r with
    | none => exact ⟨rfl, rfl⟩
    | some q =>
      obtain ⟨p, r1⟩ := q
      obtain ⟨h1, h2⟩ := settle_numbers n (logB r1 p)
      have h3 : r1.seats = r.seats ∧ r1.patience = r.patience := by
        unfold begun at hb
        split at hb
        · split at hb
          · cases hb
          · cases hb; exact ⟨rfl, rfl⟩
        · split at hb
          · cases hb
          · split at hb
            · cases hb
            · cases hb; exact ⟨rfl, rfl⟩
      exact ⟨h1.trans h3.1, h2.trans h3.2⟩
/-! ### deeds -/
inductive Kd where
  | came
  | left
  | asked
  | eased
def Kd.word : Kd → Str
  | came => Str.ofString "came"
  | left => Str.ofString "left"
  | asked => Str.ofString "asked"
  | eased => Str.ofString "eased"
structure Dd where
  kind : Kd
  name : Str
  rd : Bool
def eD (d : Dd) : D := .tup [.str d.kind.word, .str d.name, .str (wishS d.rd)]
def eDs (l : List Dd) : List D := l.map eD
def doO (r : Rm) (d : Dd) : Out := match d.kind with
  | .came => comeO r (.str d.name) (.str (wishS d.rd))
  | .left => leaveO r (.str d.name)
  | .asked => askO r (.str d.name)
  | .eased => easeO r (.str d.name)

local macro_rules | `(tactic| walk_at "dl") => `(tactic| try simp -implicitDefEqProofs only [DL.dNext, DL.dSeq, DL.dExpr, DL.dRet, DL.dIfS, DL.dSet, DL.dCont, DL.dRaise, DL.dFor, DL.dgName, DL.dgPair, DL.dTry, DL.dFn, DL.dMth, DL.dMk, DL.dFld, DL.dFldS, DL.dPut, DL.dVar, DL.slot, DL.dC, DL.dOp, DL.dUn, DL.oSub, DL.oMul, DL.oDiv, DL.oMod, DL.oPow, DL.oLt, DL.oLe, DL.oGt, DL.oGe, DL.oEq, DL.oNe, DL.oIn, DL.oNotIn, DL.dB, DL.dIsN, DL.dChain, DL.dAnd, DL.dOr, DL.dNot, DL.dAndV, DL.dOrV, DL.dNotV, DL.dIf, DL.dNil, DL.dCons, DL.few, DL.dLst, DL.dTup, DL.dLstM, DL.dFrz, DL.dPairs, DL.dDisp, DL.dDic0, DL.dSl, DL.dNoPart, DL.dCall, DL.dMet0L, DL.dMet, DL.dItems, DL.dRange1, DL.dEnum, DL.dLcM, DL.dwipe, DL.startD, DL.dNever, DL.el_some, DL.elL_lst, DL.elD_dic, DL.elI_ins, DL.res_non, DL.res_bl, DL.res_int, DL.res_str, DL.res_lst, DL.res_tupE, DL.res_dic, DL.res_scr, DL.res_ty, DL.oAdd_eq, DL.addR_int, DL.addR_str, DL.addR_lst, DL.addR_tup, DL.oAddM_eq, DL.addMR_lst, DL.oInt_eq, DL.intR_int, DL.oInt0_eq, DL.int0R_int, DL.oNeg_eq, DL.negR_int, DL.oEqN_eq, DL.eqR_some, DL.eqR_none, DL.eqS_non_non, DL.eqS_non_int, DL.eqS_non_bl, DL.eqS_non_str, DL.eqS_non_lst, DL.eqS_non_tup, DL.eqS_int_non, DL.eqS_int_int, DL.eqS_int_bl, DL.eqS_int_str, DL.eqS_int_lst, DL.eqS_int_tup, DL.eqS_bl_non, DL.eqS_bl_int, DL.eqS_bl_bl, DL.eqS_bl_str, DL.eqS_bl_lst, DL.eqS_bl_tup, DL.eqS_str_non, DL.eqS_str_int, DL.eqS_str_bl, DL.eqS_str_str, DL.eqS_str_lst, DL.eqS_str_tup, DL.eqS_lst_non, DL.eqS_lst_int, DL.eqS_lst_bl, DL.eqS_lst_str, DL.eqS_lst_lst, DL.eqS_lst_tup, DL.eqS_tup_non, DL.eqS_tup_int, DL.eqS_tup_bl, DL.eqS_tup_str, DL.eqS_tup_lst, DL.eqS_tup_tup, DL.eqS_obj_non, DL.eqS_non_obj, DL.eqS_obj_int, DL.eqS_int_obj, DL.eqS_obj_bl, DL.eqS_bl_obj, DL.eqS_obj_str, DL.eqS_str_obj, DL.eqS_obj_lst, DL.eqS_lst_obj, DL.eqS_obj_tup, DL.eqS_tup_obj, DL.eqS_obj_obj, DL.oInN_eq, DL.inR_lst, DL.inR_tup, DL.inR_str, DL.flatD_non, DL.flatD_bl, DL.flatD_int, DL.flatD_str, DL.asB_bl, DL.isN_non, DL.isN_bl, DL.isN_int, DL.isN_str, DL.isN_lst, DL.isN_tup, DL.isN_dic, DL.isN_scr, DL.isN_ty, DL.isN_obj, DL.frz_non, DL.frz_bl, DL.frz_int, DL.frz_str, DL.frz_lst, DL.frz_tup, DL.frz_dic, DL.frz_scr, DL.frz_ty, DL.oIx_eq, DL.ixR_lst, DL.ixR_tup, DL.ixR_scr, DL.ixR_str, DL.ixR_dic, DL.nth_0, DL.nth_1, DL.nth_2, DL.nth_3, DL.oSl_eq, DL.slR_lst, DL.slR_tup, DL.slR_str, DL.dPart_eq, DL.partR_int, DL.on1_cons, DL.on2_cons, DL.lenD_lst, DL.lenD_tup, DL.lenD_scr, DL.lenD_str, DL.intD_int, DL.intD_bl, DL.strD_int, DL.int2_int, DL.listM_lst, DL.listF_lst, DL.listM_tup, DL.listF_tup, DL.dictM_dic, DL.isiD_ty, DL.oAppend_obj, DL.oInsert_obj, DL.oPop_obj, DL.oPopAt_obj, DL.isLst_eq, DL.isLstR_lst, DL.isStr_str, DL.oSplit_str, DL.oJoin_str, DL.itemsOf_lst, DL.itemsOf_tup, DL.itemsOf_str, DL.rng1_int, DL.enumOf_lst, DL.two_tup, DL.insIs_obj, DL.getFld_obj, DL.setFld_obj, DL.putDic_obj, DL.isB_str_non, DL.isB_str_bl, DL.isB_str_int, DL.isB_str_str, DL.isB_str_lst, DL.isB_str_tup, DL.isB_str_dic, DL.isB_int_non, DL.isB_int_bl, DL.isB_int_int, DL.isB_int_str, DL.isB_int_lst, DL.isB_int_tup, DL.isB_int_dic, DL.isB_bool_non, DL.isB_bool_bl, DL.isB_bool_int, DL.isB_bool_str, DL.isB_bool_lst, DL.isB_bool_tup, DL.isB_bool_dic, DL.isB_list_non, DL.isB_list_bl, DL.isB_list_int, DL.isB_list_str, DL.isB_list_lst, DL.isB_list_tup, DL.isB_list_dic, DL.isB_tuple_non, DL.isB_tuple_bl, DL.isB_tuple_int, DL.isB_tuple_str, DL.isB_tuple_lst, DL.isB_tuple_tup, DL.isB_tuple_dic, Bool.cond_true, Bool.cond_false, L2.CDiv, Int.reduceLT, Int.reduceLE, true_and, and_true, cond_true, cond_false, List.map_cons, List.map_nil, List.set_cons_zero, List.set_cons_succ, List.set_nil, DL.cpow_109, DL.pow_109, DL.frz_set_lst, DL.frz_set_dic, Bool.not_true, Bool.not_false, DL.itemsOf_obj, DL.enumOf_obj, DL.all_still, okD_non, okD_bl, okD_int, okD_str, okD_lst, okD_tup, okD_dic, res_set_lst, Mem.set_same, Mem.set_set, lk_seats, lk_patience, lk_reading, lk_alone, lk_asking, lk_waiting, lk_rows, no_is_inside, no_is_waiting, no_look, no_come, no_leave, no_ask, no_ease, no_settled, no_begun, no_readers, no_writer, no_asker, no_line, no_passed, no_journal, dp_reading, dp_reading0, dp_reading1, dp_alone, dp_alone0, dp_asking, dp_asking0, dp_waiting, dp_rows, few_flds, eNames, isN_optS, res_optS, optS_some, optS_none, Option.isNone_none, Option.isNone_some])
theorem sub_nodup {α : Type} {a b c : List α} (h : (a ++ b ++ c).Nodup) : (a ++ c).Nodup := by
  rw [List.nodup_append] at h ⊢
  rw [List.nodup_append] at h
  exact ⟨h.1.1, h.2.1, fun x hx y hy => h.2.2 x (List.mem_append.mpr (.inl hx)) y hy⟩
theorem done_inv {r : Rm} (I : Inv r) (x : Rw) {l : List (Str × Bool)} {r' : Rm} (h : doneBy r x = .did l r') : Inv r' ∧ begun r' = none ∧ wgt r' ≤ wgt r + 1 ∧ r'.seats = r.seats ∧ r'.patience = r.patience := by
  unfold doneBy at h
  cases h
  have I2 : Inv (logR r x) := ⟨I.seats, I.rds, I.nd, I.ok, I.alo, I.ask⟩
  refine ⟨(settle_inv _ _ I2).1, settle_rest _ _ (Nat.le_refl _), ?_, (settle_numbers _ _).1, (settle_numbers _ _).2⟩
  refine Nat.le_trans (settle_wgt _ _) ?_
  unfold wgt logR
  simp only [List.length_append, List.length_singleton]
  omega
theorem mem_gone {r : Rm} {z y : Str} (h : y ∈ inNames (goneR r z) ++ wNames (goneR r z)) : y ∈ inNames r ++ wNames r ∧ y ≠ z := by
  unfold inNames wNames goneR at h
  simp only [List.mem_append, List.mem_map, List.mem_filter, Bool.not_eq_true', decide_eq_false_iff_not] at h
  rcases h with (⟨h1, h2⟩ | h) | ⟨w, ⟨h1, h2⟩, rfl⟩
  · exact ⟨List.mem_append.mpr (.inl (List.mem_append.mpr (.inl h1))), h2⟩
  · split at h
    · cases h
    · rename_i hn
      refine ⟨List.mem_append.mpr (.inl (List.mem_append.mpr (.inr h))), fun e => ?_⟩
      subst e
      cases ha : r.alone with
      | none => rw [ha] at h; cases h
      | some u =>
        rw [ha] at h hn
        have := List.mem_singleton.mp h
        exact hn (by rw [this])
  · exact ⟨List.mem_append.mpr (.inr (List.mem_map.mpr ⟨w, h1, rfl⟩)), h2⟩
theorem gone_nodup {r : Rm} (I : Inv r) (z : Str) : (inNames (goneR r z) ++ wNames (goneR r z)).Nodup := by
  have hs : (inNames (goneR r z) ++ wNames (goneR r z)).Sublist (inNames r ++ wNames r) := by
    unfold inNames wNames goneR
    simp only
    refine List.Sublist.append (List.Sublist.append List.filter_sublist ?_) (List.Sublist.map _ List.filter_sublist)
    split
    · exact List.nil_sublist _
    · exact List.Sublist.refl _
  exact hs.nodup I.nd
theorem gone_inv {r : Rm} (I : Inv r) (z : Str) : Inv (goneR r z) := by
  refine ⟨I.seats, ?_, gone_nodup I z, fun y hy => I.ok y (mem_gone hy).1, fun y hy => ?_, fun y hy => ?_⟩
  · have := I.rds
    have := List.length_filter_le (fun y => !decide (y = z)) r.reading
    show ((r.reading.filter (fun y => !decide (y = z))).length : Int) ≤ r.seats
    omega
  · have hy : (if r.alone = some z then none else r.alone) = some y := hy
    split at hy
    · cases hy
    · obtain ⟨h1, h2⟩ := I.alo y hy
      refine ⟨?_, ?_⟩
      · show r.reading.filter _ = []
        rw [h1]; rfl
      · show (if r.asking = some z then none else r.asking) = none
        rw [h2]; rfl
  · have hy : (if r.asking = some z then none else r.asking) = some y := hy
    split at hy
    · cases hy
    · rename_i hn
      have := I.ask y hy
      show y ∈ r.reading.filter (fun y => !decide (y = z))
      refine List.mem_filter.mpr ⟨this, ?_⟩
      rw [decide_eq_false (fun e => hn (by rw [hy, e]))]
      rfl
theorem gone_wgt (r : Rm) (z : Str) : wgt (goneR r z) ≤ wgt r := by
  unfold wgt goneR
  simp only
  have h1 := List.length_filter_le (fun y => !decide (y = z)) r.reading
  have h2 := List.length_filter_le (fun w : Wt => !decide (w.name = z)) r.waiting
  have h3 : cond (if r.asking = some z then none else r.asking).isSome 2 0 ≤ cond r.asking.isSome 2 0 := by
    split
    · exact Nat.zero_le _
    · exact Nat.le_refl _
  omega
theorem come_inv {r : Rm} (I : Inv r) {z : Str} (b : Bool) (hn : nameOk z = true) (h : (insideB r z || waitsB r z) = false) : Inv { r with waiting := r.waiting ++ [⟨z, b, 0⟩] } := by
  have e : (r.waiting ++ [(⟨z, b, 0⟩ : Wt)]).map (·.name) = wNames r ++ [z] := by
    rw [List.map_append]; rfl
  have hz : ¬ z ∈ inNames r ++ wNames r := fun hm => by
    obtain ⟨h1, h2⟩ := Bool.or_eq_false_iff.mp h
    unfold insideB at h1
    obtain ⟨h3, h4⟩ := Bool.or_eq_false_iff.mp h1
    rcases List.mem_append.mp hm with hm | hm
    · rcases List.mem_append.mp hm with hm | hm
      · exact of_decide_eq_false h3 hm
      · cases ha : r.alone with
        | none => rw [ha] at hm; cases hm
        | some u =>
          rw [ha] at hm h4
          have := List.mem_singleton.mp hm
          exact of_decide_eq_false h4 (by rw [this])
    · exact of_decide_eq_false h2 hm
  refine ⟨I.seats, I.rds, ?_, ?_, I.alo, I.ask⟩
  · show (inNames r ++ (r.waiting ++ [(⟨z, b, 0⟩ : Wt)]).map (·.name)).Nodup
    rw [e, ← List.append_assoc, List.nodup_append]
    refine ⟨I.nd, by simp, fun x hx y hy e => ?_⟩
    rw [List.mem_singleton.mp hy] at e
    subst e
    exact hz hx
  · intro y hy
    have hy : y ∈ inNames r ++ (r.waiting ++ [(⟨z, b, 0⟩ : Wt)]).map (·.name) := hy
    rw [e, ← List.append_assoc] at hy
    rcases List.mem_append.mp hy with hy | hy
    · exact I.ok y hy
    · rw [List.mem_singleton.mp hy]; exact hn
theorem deed_inv {r : Rm} (I : Inv r) (d : Dd) {l : List (Str × Bool)} {r' : Rm} (h : doO r d = .did l r') : Inv r' ∧ begun r' = none ∧ wgt r' ≤ wgt r + 3 ∧ r'.seats = r.seats ∧ r'.patience = r.patience := by
  obtain ⟨k, z, b⟩ := d
  cases k with
  | came =>
    have h : comeO r (.str z) (.str (wishS b)) = .did l r' := h
    unfold comeO at h
    split at h
    · cases h
    rename_i hn
    split at h
    · cases h
    simp only at h
    split at h
    · cases h
    rename_i hk
    have hk : (insideB r z || waitsB r z) = false := by simpa using hk
    have hn : nameOk z = true := by simpa [isName] using hn
    obtain ⟨h1, h2, h3, h4, h5⟩ := done_inv (come_inv I _ hn hk) _ h
    refine ⟨h1, h2, Nat.le_trans h3 ?_, h4, h5⟩
    unfold wgt
    simp only [List.length_append, List.length_singleton]
    omega
  | left =>
    have h : leaveO r (.str z) = .did l r' := h
    unfold leaveO at h
    split at h
    · cases h
    obtain ⟨h1, h2, h3, h4, h5⟩ := done_inv (gone_inv I z) _ h
    have := gone_wgt r z
    exact ⟨h1, h2, by omega, h4, h5⟩
  | asked =>
    have h : askO r (.str z) = .did l r' := h
    unfold askO at h
    split at h
    · cases h
    rename_i hh
    simp only at h
    split at h
    · cases h
    rename_i hw
    split at h
    · cases h
    rename_i ha
    split at h
    · cases h
    rename_i hk
    have hin : z ∈ r.reading := by
      have hh : (nameOk z && (insideB r z || waitsB r z)) = true := by
        have : ¬ (nameOk z && (insideB r z || waitsB r z)) = false := hh
        rw [Bool.not_eq_false] at this
        exact this
      obtain ⟨_, hh⟩ := Bool.and_eq_true_iff.mp hh
      have hw : waitsB r z = false := by simpa using hw
      have ha : r.alone = none := by simpa using ha
      rw [hw, Bool.or_false] at hh
      unfold insideB at hh
      rw [ha] at hh
      simpa using hh
    have I2 : Inv { r with asking := some z } := ⟨I.seats, I.rds, I.nd, I.ok, fun y hy => absurd (show r.alone.isSome = true by rw [show r.alone = some y from hy]; rfl) ha, fun y hy => by cases hy; exact hin⟩
    obtain ⟨h1, h2, h3, h4, h5⟩ := done_inv I2 _ h
    refine ⟨h1, h2, Nat.le_trans h3 ?_, h4, h5⟩
    unfold wgt
    simp only [Option.isSome_some, cond_true]
    omega
  | eased =>
    have h : easeO r (.str z) = .did l r' := h
    unfold easeO at h
    split at h
    · cases h
    rename_i hh
    simp only at h
    split at h
    · cases h
    rename_i hw
    split at h
    · cases h
    rename_i ha
    cases hal : r.alone with
    | none => rw [hal] at ha; exact absurd rfl ha
    | some y =>
      obtain ⟨hr, hk⟩ := I.alo y hal
      have hyz : y = z := by
        have hh : (nameOk z && (insideB r z || waitsB r z)) = true := by
          have : ¬ (nameOk z && (insideB r z || waitsB r z)) = false := hh
          rw [Bool.not_eq_false] at this
          exact this
        obtain ⟨_, hh⟩ := Bool.and_eq_true_iff.mp hh
        have hw : waitsB r z = false := by simpa using hw
        rw [hw, Bool.or_false] at hh
        unfold insideB at hh
        rw [hal, hr] at hh
        simpa using hh
      subst hyz
      have en : inNames r = [y] := by unfold inNames; rw [hr, hal]; rfl
      have nd := I.nd
      have ok := I.ok
      rw [en] at nd ok
      have hs := I.seats
      have I2 : Inv { r with alone := none, reading := [y] } := ⟨I.seats, by show (1 : Int) ≤ r.seats; exact hs, nd, ok, (fun u hu => by cases hu), fun u hu => by
        have hu : r.asking = some u := hu
        rw [hk] at hu; cases hu⟩
      obtain ⟨h1, h2, h3, h4, h5⟩ := done_inv I2 _ h
      refine ⟨h1, h2, Nat.le_trans h3 ?_, h4, h5⟩
      unfold wgt
      simp only [List.length_singleton]
      omega
/-! ### deeds as the plain laws tell them -/
theorem insideB_iff {r : Rm} {z : Str} : insideB r z = true ↔ z ∈ inNames r := by
  unfold insideB inNames
  rw [Bool.or_eq_true, decide_eq_true_iff, decide_eq_true_iff, List.mem_append]
  cases r.alone with
  | none => simp
  | some y =>
    simp only [Option.some.injEq, Option.toList_some, List.mem_singleton]
    exact ⟨fun h => h.imp id Eq.symm, fun h => h.imp id Eq.symm⟩
theorem waitsB_iff {r : Rm} {z : Str} : waitsB r z = true ↔ z ∈ wNames r := decide_eq_true_iff
theorem in_not_waits {r : Rm} (I : Inv r) {z : Str} (h : insideB r z = true) : waitsB r z = false := by
  cases e : waitsB r z with
  | false => rfl
  | true => exact absurd rfl ((List.nodup_append.mp I.nd).2.2 z (insideB_iff.mp h) z (waitsB_iff.mp e))
def refB (r : Rm) (d : Dd) : Bool := match d.kind with
  | .came => insideB r d.name || waitsB r d.name
  | .left => !(insideB r d.name || waitsB r d.name)
  | .asked => !decide (d.name ∈ r.reading) || r.asking.isSome
  | .eased => !decide (r.alone = some d.name)
def preR (r : Rm) (d : Dd) : Rm := match d.kind with
  | .came => { r with waiting := r.waiting ++ [⟨d.name, d.rd, 0⟩] }
  | .left => goneR r d.name
  | .asked => { r with asking := some d.name }
  | .eased => { r with alone := none, reading := [d.name] }
def rowOf (d : Dd) : Rw := match d.kind with
  | .came => .came d.name d.rd
  | .left => .left d.name
  | .asked => .asked d.name
  | .eased => .eased d.name
theorem here_eq {r : Rm} {z : Str} (hn : nameOk z = true) : hereB r (.str z) = (insideB r z || waitsB r z) := by
  show (nameOk z && (insideB r z || waitsB r z)) = _
  rw [hn]; rfl
theorem isWish_wishS (b : Bool) : isWish (.str (wishS b)) = true := by
  show (decide (wishS b = Str.ofString "read") || decide (wishS b = Str.ofString "write")) = true
  rw [wishS_read, wishS_write]
  cases b <;> rfl
theorem not_reading_alone {r : Rm} (I : Inv r) {z : Str} (h : z ∈ r.reading) : r.alone = none := by
  cases e : r.alone with
  | none => rfl
  | some y => rw [(I.alo y e).1] at h; cases h
theorem do_ref {r : Rm} (I : Inv r) {d : Dd} (hn : nameOk d.name = true) (h : refB r d = true) : ∃ c, doO r d = .no c := by
  obtain ⟨k, z, b⟩ := d
  cases k with
  | came =>
    have h : (insideB r z || waitsB r z) = true := h
    have hn : isName (.str z) = true := hn
    refine ⟨.known, ?_⟩
    show comeO r (.str z) (.str (wishS b)) = _
    unfold comeO
    rw [if_neg (bt_ne hn), if_neg (bt_ne (isWish_wishS b))]
    simp only
    rw [if_pos h]
  | left =>
    have h : (!(insideB r z || waitsB r z)) = true := h
    refine ⟨.stranger, ?_⟩
    show leaveO r (.str z) = _
    unfold leaveO
    rw [if_pos (by rw [here_eq hn]; simpa using h)]
  | asked =>
    have h : (!decide (z ∈ r.reading) || r.asking.isSome) = true := h
    show ∃ c, askO r (.str z) = .no c
    unfold askO
    rw [here_eq hn]
    by_cases h1 : (insideB r z || waitsB r z) = false
    · exact ⟨_, if_pos h1⟩
    rw [if_neg h1]
    simp only
    by_cases h2 : waitsB r z = true
    · exact ⟨_, if_pos h2⟩
    rw [if_neg h2]
    by_cases h3 : r.alone.isSome = true
    · exact ⟨_, if_pos h3⟩
    rw [if_neg h3]
    by_cases h4 : r.asking.isSome = true
    · exact ⟨_, if_pos h4⟩
    exfalso
    have h2 : waitsB r z = false := by simpa using h2
    have h3 : r.alone = none := by simpa using h3
    have h4 : r.asking.isSome = false := by simpa using h4
    rw [h4, Bool.or_false] at h
    rw [h2, Bool.or_false] at h1
    unfold insideB at h1
    rw [h3] at h1
    simp at h h1
    exact h h1
  | eased =>
    have h : (!decide (r.alone = some z)) = true := h
    show ∃ c, easeO r (.str z) = .no c
    unfold easeO
    rw [here_eq hn]
    by_cases h1 : (insideB r z || waitsB r z) = false
    · exact ⟨_, if_pos h1⟩
    rw [if_neg h1]
    simp only
    by_cases h2 : waitsB r z = true
    · exact ⟨_, if_pos h2⟩
    rw [if_neg h2]
    by_cases h3 : r.alone.isNone = true
    · exact ⟨_, if_pos h3⟩
    exfalso
    have h2 : waitsB r z = false := by simpa using h2
    rw [h2, Bool.or_false] at h1
    unfold insideB at h1
    cases e : r.alone with
    | none => rw [e] at h3; exact h3 rfl
    | some y =>
      rw [(I.alo y e).1] at h1
      simp at h1 h
      exact h h1
theorem do_done {r : Rm} (I : Inv r) {d : Dd} (hn : nameOk d.name = true) (h : refB r d = false) : doO r d = doneBy (preR r d) (rowOf d) := by
  obtain ⟨k, z, b⟩ := d
  cases k with
  | came =>
    have h : (insideB r z || waitsB r z) = false := h
    have hn : isName (.str z) = true := hn
    show comeO r (.str z) (.str (wishS b)) = _
    unfold comeO
    rw [if_neg (bt_ne hn), if_neg (bt_ne (isWish_wishS b))]
    simp only
    rw [if_neg (bf_ne h), wishS_read]
    rfl
  | left =>
    have h : (!(insideB r z || waitsB r z)) = false := h
    show leaveO r (.str z) = _
    unfold leaveO
    rw [if_neg (by rw [here_eq hn]; simpa using h)]
    rfl
  | asked =>
    have h : (!decide (z ∈ r.reading) || r.asking.isSome) = false := h
    obtain ⟨h1, h2⟩ := Bool.or_eq_false_iff.mp h
    have h1 : z ∈ r.reading := by simpa using h1
    have hi : insideB r z = true := insideB_iff.mpr (List.mem_append.mpr (.inl h1))
    have hw := in_not_waits I hi
    show askO r (.str z) = _
    unfold askO
    rw [here_eq hn, hi, hw, if_neg (by decide)]
    simp only
    rw [if_neg (bf_ne hw), if_neg (by rw [not_reading_alone I h1]; decide), if_neg (bf_ne h2)]
    rfl
  | eased =>
    have h : (!decide (r.alone = some z)) = false := h
    have h1 : r.alone = some z := by simpa using h
    have hi : insideB r z = true := insideB_iff.mpr (List.mem_append.mpr (.inr (by rw [h1]; simp)))
    have hw := in_not_waits I hi
    show easeO r (.str z) = _
    unfold easeO
    rw [here_eq hn, hi, hw, if_neg (by decide)]
    simp only
    rw [if_neg (bf_ne hw), if_neg (by rw [h1]; exact Bool.false_ne_true)]
    rfl
theorem pre_inv {r : Rm} (I : Inv r) {d : Dd} (hn : nameOk d.name = true) (h : refB r d = false) : Inv (preR r d) := by
  obtain ⟨k, z, b⟩ := d
  cases k with
  | came => exact come_inv I b hn h
  | left => exact gone_inv I z
  | asked =>
    have h : (!decide (z ∈ r.reading) || r.asking.isSome) = false := h
    obtain ⟨h1, h2⟩ := Bool.or_eq_false_iff.mp h
    have h1 : z ∈ r.reading := by simpa using h1
    exact ⟨I.seats, I.rds, I.nd, I.ok, (fun y hy => by
      have hy : r.alone = some y := hy
      rw [not_reading_alone I h1] at hy
      cases hy), fun y hy => by cases hy; exact h1⟩
  | eased =>
    have h : (!decide (r.alone = some z)) = false := h
    have h1 : r.alone = some z := by simpa using h
    obtain ⟨hr, hk⟩ := I.alo z h1
    have en : inNames r = [z] := by unfold inNames; rw [hr, h1]; rfl
    have nd := I.nd
    have ok := I.ok
    rw [en] at nd ok
    have hs := I.seats
    exact ⟨I.seats, by show (1 : Int) ≤ r.seats; exact hs, nd, ok, (fun u hu => by cases hu), fun u hu => by
      have hu : r.asking = some u := hu
      rw [hk] at hu; cases hu⟩
/-- who is here behind a deed that was done -/
def behind (here : List Str) (d : Dd) : List Str := match d.kind with
  | .came => here ++ [d.name]
  | .left => here.filter fun y => !decide (y = d.name)
  | _ => here
theorem gone_names (r : Rm) (z : Str) : inNames (goneR r z) ++ wNames (goneR r z) = (inNames r ++ wNames r).filter (fun y => !decide (y = z)) := by
  unfold inNames wNames goneR
  simp only
  rw [List.filter_append, List.filter_append]
  have e1 : (if r.alone = some z then (none : Option Str) else r.alone).toList = r.alone.toList.filter (fun y => !decide (y = z)) := by
    cases e : r.alone with
    | none => simp
    | some y =>
      by_cases h : y = z
      · subst h; simp
      · rw [if_neg (by simpa using h)]
        simp [h]
  have e2 : (r.waiting.filter (fun w : Wt => !decide (w.name = z))).map (·.name) = (r.waiting.map (·.name)).filter (fun y => !decide (y = z)) := by
    rw [List.filter_map]; rfl
  rw [e1, e2]
theorem pre_names {r : Rm} (I : Inv r) {d : Dd} (h : refB r d = false) : inNames (preR r d) ++ wNames (preR r d) = behind (inNames r ++ wNames r) d := by
  obtain ⟨k, z, b⟩ := d
  cases k with
  | came =>
    show inNames r ++ (r.waiting ++ [(⟨z, b, 0⟩ : Wt)]).map (·.name) = (inNames r ++ wNames r) ++ [z]
    rw [List.map_append, List.append_assoc]
    rfl
  | left => exact gone_names r z
  | asked => rfl
  | eased =>
    have h : (!decide (r.alone = some z)) = false := h
    have h1 : r.alone = some z := by simpa using h
    obtain ⟨hr, hk⟩ := I.alo z h1
    show ([z] ++ []) ++ wNames r = inNames r ++ wNames r
    unfold inNames
    rw [hr, h1]
    rfl
theorem behind_perm {a b : List Str} (p : a.Perm b) (d : Dd) : (behind a d).Perm (behind b d) := by
  obtain ⟨k, z, b⟩ := d
  cases k with
  | came => exact p.append_right _
  | left => exact p.filter _
  | asked => exact p
  | eased => exact p
theorem pre_wgt (r : Rm) (d : Dd) (h : refB r d = false) (I : Inv r) : wgt (preR r d) ≤ wgt r + 2 := by
  obtain ⟨k, z, b⟩ := d
  cases k with
  | came =>
    show wgt { r with waiting := r.waiting ++ [(⟨z, b, 0⟩ : Wt)] } ≤ _
    unfold wgt
    simp only [List.length_append, List.length_singleton]
    omega
  | left => exact Nat.le_trans (gone_wgt r z) (Nat.le_add_right _ _)
  | asked =>
    show wgt { r with asking := some z } ≤ _
    unfold wgt
    simp only [Option.isSome_some, cond_true]
    omega
  | eased =>
    show wgt { r with alone := none, reading := [z] } ≤ _
    unfold wgt
    simp only [List.length_singleton]
    omega
theorem pre_numbers (r : Rm) (d : Dd) : (preR r d).seats = r.seats ∧ (preR r d).patience = r.patience ∧ (preR r d).rows = r.rows := by
  obtain ⟨k, z, b⟩ := d
  cases k <;> exact ⟨rfl, rfl, rfl⟩
/-- what a deed that was done leaves: all at once -/
theorem deed_did {r : Rm} (I : Inv r) {d : Dd} (hn : nameOk d.name = true) {l : List (Str × Bool)} {r' : Rm} (h : doO r d = .did l r') :
    refB r d = false ∧ l = (settle (meas (preR r d)) (logR (preR r d) (rowOf d))).1 ∧ r' = (settle (meas (preR r d)) (logR (preR r d) (rowOf d))).2 := by
  cases e : refB r d with
  | true =>
    obtain ⟨c, q⟩ := do_ref I hn e
    rw [q] at h; cases h
  | false =>
    rw [do_done I hn e] at h
    unfold doneBy at h
    cases h
    exact ⟨rfl, rfl, rfl⟩
theorem deed_names {r : Rm} (I : Inv r) {d : Dd} (hn : nameOk d.name = true) {l : List (Str × Bool)} {r' : Rm} (h : doO r d = .did l r') {here : List Str} (P : (inNames r ++ wNames r).Perm here) : (inNames r' ++ wNames r').Perm (behind here d) := by
  obtain ⟨h1, _, rfl⟩ := deed_did I hn h
  have I0 := pre_inv I hn h1
  have I2 : Inv (logR (preR r d) (rowOf d)) := ⟨I0.seats, I0.rds, I0.nd, I0.ok, I0.alo, I0.ask⟩
  refine (settle_inv _ _ I2).2.trans ?_
  show (inNames (preR r d) ++ wNames (preR r d)).Perm _
  rw [pre_names I h1]
  exact behind_perm P d
/-! ### who began is in the room -/
theorem next_alone (l : List Wt) (s p n : Int) : nextPlace l s p n true = none := by
  cases h : nextPlace l s p n true with
  | none => rfl
  | some k =>
    obtain ⟨v, _, hc⟩ := nextPlace_can h
    have c : ∀ b, canB s n true b = false := fun b => by cases b <;> rfl
    rw [c] at hc; cases hc
theorem begun_alone {r : Rm} {z : Str} (h : r.alone = some z) (ha : r.asking = none) : begun r = none := by
  unfold begun
  rw [ha]
  simp only
  rw [h, Option.isSome_some, next_alone]
theorem begun_asked {r r1 : Rm} {p : Str × Bool} {z : Str} (ha : r.asking = some z) (h : begun r = some (p, r1)) : ¬ 1 < r.reading.length ∧ p = (z, false) ∧ r1 = { r with alone := some z, asking := none, reading := [] } := by
  unfold begun at h
  rw [ha] at h
  simp only at h
  split at h
  · cases h
  · rename_i hl
    cases h
    exact ⟨hl, rfl, rfl⟩
theorem begun_plain {r r1 : Rm} {p : Str × Bool} (ha : r.asking = none) (h : begun r = some (p, r1)) : r.alone = none ∧ ∃ k w, nextPlace r.waiting r.seats r.patience r.reading.length false = some k ∧ r.waiting[k]? = some w ∧ p = (w.name, w.rd) ∧
    r1 = { r with reading := cond w.rd (r.reading ++ [w.name]) r.reading, alone := cond w.rd r.alone (some w.name), waiting := (r.waiting.take k).map bump ++ r.waiting.drop (k + 1) } := by
  have hal : r.alone = none := by
    cases e : r.alone with
    | none => rfl
    | some y => rw [begun_alone e ha] at h; cases h
  refine ⟨hal, ?_⟩
  unfold begun at h
  rw [ha] at h
  simp only at h
  rw [hal, Option.isSome_none] at h
  cases hn : nextPlace r.waiting r.seats r.patience r.reading.length false with
  | none => rw [hn] at h; cases h
  | some k =>
    rw [hn] at h
    simp only at h
    cases hg : r.waiting[k]? with
    | none => rw [hg] at h; cases h
    | some w =>
      rw [hg] at h
      simp only at h
      cases h
      rw [hal]
      rw [hal] at *
      exact ⟨k, w, rfl, hg, rfl, by rw [ha]⟩
theorem settle_alone {r : Rm} {z : Str} (h : r.alone = some z) (ha : r.asking = none) : ∀ n, settle n r = ([], r)
  | 0 => rfl
  | n + 1 => by
    unfold settle
    rw [begun_alone h ha]
def inAs (r : Rm) (p : Str × Bool) : Prop := (p.2 = true → p.1 ∈ r.reading) ∧ (p.2 = false → r.alone = some p.1)
theorem settle_grow : ∀ (n : Nat) (r : Rm), r.asking = none → ∀ z ∈ r.reading, z ∈ (settle n r).2.reading
  | 0, r, _, z, hz => hz
  | n + 1, r, ha, z, hz => by
    unfold settle
    cases h : begun r with
    | none => exact hz
    | some q =>
      obtain ⟨p, r1⟩ := q
      obtain ⟨hal, k, w, h1, h2, h3, h4⟩ := begun_plain ha h
      refine settle_grow n (logB r1 p) (by subst h4; exact ha) z ?_
      subst h4
      show z ∈ cond w.rd (r.reading ++ [w.name]) r.reading
      cases w.rd with
      | true => exact List.mem_append.mpr (.inl hz)
      | false => exact hz
theorem settle_in : ∀ (n : Nat) (r : Rm), ∀ p ∈ (settle n r).1, inAs (settle n r).2 p
  | 0, r, p, hp => by cases hp
  | n + 1, r, q, hq => by
    unfold settle at hq ⊢
    cases h : begun r with
    | none => rw [h] at hq; cases hq
    | some x =>
      obtain ⟨p, r1⟩ := x
      rw [h] at hq
      simp only at hq ⊢
      rcases List.mem_cons.mp hq with e | hq
      · subst e
        cases ha : r.asking with
        | some z =>
          obtain ⟨_, e1, e2⟩ := begun_asked ha h
          subst e1 e2
          rw [settle_alone (z := z) rfl rfl]
          exact ⟨(fun e => by cases e), fun _ => rfl⟩
        | none =>
          obtain ⟨hal, k, w, h1, h2, h3, h4⟩ := begun_plain ha h
          subst h3
          cases hw : w.rd with
          | true =>
            refine ⟨fun _ => settle_grow n _ (by subst h4; exact ha) _ ?_, fun e => by cases e⟩
            subst h4
            show w.name ∈ cond w.rd (r.reading ++ [w.name]) r.reading
            rw [hw]
            exact List.mem_append.mpr (.inr (List.mem_singleton.mpr rfl))
          | false =>
            rw [hw] at h4
            have e1 : (logB r1 (w.name, false)).alone = some w.name := by subst h4; rfl
            rw [settle_alone e1 (by subst h4; exact ha)]
            exact ⟨(fun e => by cases e), fun _ => e1⟩
      · exact settle_in n (logB r1 p) q hq
def passedI (r : Rm) (z : Str) : Int := ((r.waiting.filter fun w => decide (w.name = z)).map (·.n)).sum
theorem passed_of {r : Rm} (I : Inv r) {w : Wt} (h : w ∈ r.waiting) : passedI r w.name = w.n := by
  have nd : (r.waiting.map (·.name)).Nodup := (List.nodup_append.mp I.nd).2.1
  unfold passedI
  have : ∀ l : List Wt, (l.map (·.name)).Nodup → w ∈ l → ((l.filter fun v => decide (v.name = w.name)).map (·.n)).sum = w.n := by
    intro l
    induction l with
    | nil => intro _ h; cases h
    | cons v l ih =>
      intro nd hm
      rw [List.map_cons, List.nodup_cons] at nd
      rcases List.mem_cons.mp hm with e | hm
      · subst e
        have : l.filter (fun v => decide (v.name = w.name)) = [] := by
          rw [List.filter_eq_nil_iff]
          intro v hv e
          exact nd.1 (List.mem_map.mpr ⟨v, hv, of_decide_eq_true e⟩)
        rw [List.filter_cons_of_pos (by simp), this]
        simp
      · have : ¬ v.name = w.name := fun e => nd.1 (List.mem_map.mpr ⟨w, hm, e.symm⟩)
        rw [List.filter_cons_of_neg (by simpa using this)]
        exact ih nd.2 hm
  exact this _ nd h
theorem wait_here {r : Rm} (I : Inv r) {w : Wt} (h : w ∈ r.waiting) : hereB r (.str w.name) = true ∧ insideB r w.name = false ∧ waitsB r w.name = true := by
  have hm : w.name ∈ wNames r := List.mem_map.mpr ⟨w, h, rfl⟩
  have hok := I.ok w.name (List.mem_append.mpr (.inr hm))
  have hni : ¬ w.name ∈ inNames r := fun hi => (List.nodup_append.mp I.nd).2.2 _ hi _ hm rfl
  have h2 : waitsB r w.name = true := decide_eq_true hm
  have h1 : insideB r w.name = false := by
    unfold insideB
    rw [decide_eq_false (fun e => hni (List.mem_append.mpr (.inl e))), decide_eq_false (fun e => hni (List.mem_append.mpr (.inr (by rw [e]; simp))))]
    rfl
  refine ⟨?_, h1, h2⟩
  show (nameOk w.name && (insideB r w.name || waitsB r w.name)) = true
  rw [hok, h1, h2]
  rfl
theorem kw_came (k : Kd) : decide (k.word = Str.ofString "came") = (match k with | .came => true | _ => false) := by cases k <;> first | exact decide_eq_true rfl | exact decide_eq_false (by decide +kernel)
theorem kw_left (k : Kd) : decide (k.word = Str.ofString "left") = (match k with | .left => true | _ => false) := by cases k <;> first | exact decide_eq_true rfl | exact decide_eq_false (by decide +kernel)
theorem kw_asked (k : Kd) : decide (k.word = Str.ofString "asked") = (match k with | .asked => true | _ => false) := by cases k <;> first | exact decide_eq_true rfl | exact decide_eq_false (by decide +kernel)
theorem kw_eased (k : Kd) : decide (k.word = Str.ofString "eased") = (match k with | .eased => true | _ => false) := by cases k <;> first | exact decide_eq_true rfl | exact decide_eq_false (by decide +kernel)
def keepS (z : Str) : D → Bool
  | .str y => !decide (y = z)
  | _ => false
theorem keepS_names (z : Str) (l : List Str) : ((l.map D.str).filter (keepS z)).map id = (l.filter (fun y => !decide (y = z))).map .str := by
  rw [List.map_id, List.filter_map]
  rfl
def keepW (z : Str) : D → Bool
  | .tup (.str y :: _) => !decide (y = z)
  | _ => false
theorem keepW_line (z : Str) (l : List Wt) : ((eLine l).filter (keepW z)).map id = eLine (l.filter (fun w => !decide (w.name = z))) := by
  unfold eLine
  rw [List.map_id, List.filter_map]
  rfl
theorem begun_numbers {r r1 : Rm} {p : Str × Bool} (hb : begun r = some (p, r1)) : r1.seats = r.seats ∧ r1.patience = r.patience := by
  unfold begun at hb
  split at hb
  · split at hb
    · cases hb
    · cases hb; exact ⟨rfl, rfl⟩
  · split at hb
    · cases hb
    · split at hb
      · cases hb
      · cases hb; exact ⟨rfl, rfl⟩
theorem forL_cons {g : DG} {tb : DSt} {E : DEnds} {x : D} {xs : List D} {δ : DS} {M : Mem} : forL g tb E (x :: xs) δ M = g x δ M fun δ2 M2 => tb { E with nx := forL g tb E xs, ct := forL g tb E xs, bk := E.nx } δ2 M2 := rfl

theorem begun_none_next {r : Rm} (h : begun r = none) (ha : r.asking = none) : nextPlace r.waiting r.seats r.patience r.reading.length r.alone.isSome = none := by
  unfold begun at h
  rw [ha] at h
  simp only at h
  cases hn : nextPlace r.waiting r.seats r.patience r.reading.length r.alone.isSome with
  | none => rfl
  | some k =>
    rw [hn] at h
    simp only at h
    have hk := nextPlace_lt hn
    rw [List.getElem?_eq_getElem hk] at h
    cases h
/-- where somebody waits somebody is in the room -/
theorem rest_someone {r : Rm} (I : Inv r) (h : begun r = none) (e : inNames r = []) : r.waiting = [] := by
  obtain ⟨e1, e2⟩ := List.append_eq_nil_iff.mp e
  have hal : r.alone = none := by
    cases q : r.alone with
    | none => rfl
    | some y => rw [q] at e2; cases e2
  have hk : r.asking = none := by
    cases q : r.asking with
    | none => rfl
    | some y => have := I.ask y q; rw [e1] at this; cases this
  have hn := begun_none_next h hk
  rw [e1, hal] at hn
  cases hw : r.waiting with
  | nil => rfl
  | cons x l =>
    rw [hw] at hn
    have hs := I.seats
    have hc : canB r.seats ([] : List Str).length (none : Option Str).isSome x.rd = true := by
      cases x.rd with
      | true => show (!false && decide ((0 : Int) < r.seats)) = true; rw [decide_eq_true (by omega)]; rfl
      | false => rfl
    unfold nextPlace at hn
    simp only at hn
    rw [if_pos hc] at hn
    cases hn
theorem first_ahead {l : List Wt} {k : Nat} (h : firstReader l = some k) : ∀ j w, j < k → l[j]? = some w → w.rd = false := by
  unfold firstReader at h
  rw [List.findIdx?_eq_some_iff_getElem] at h
  obtain ⟨hk, h1, h2⟩ := h
  intro j w hj hw
  obtain ⟨hl, e⟩ := List.getElem?_eq_some_iff.mp hw
  have := h2 j hj
  rw [e] at this
  simpa using this
/-- what the rules say of who begins -/
theorem next_says {l : List Wt} {s p r : Int} {k : Nat} {v : Wt} (h : nextPlace l s p r false = some k) (hv : l[k]? = some v) :
    canB s r false v.rd = true ∧ (0 < k → v.rd = true ∧ r ≠ 0) ∧ ∀ j w, j < k → l[j]? = some w → w.rd = false ∧ w.n < p := by
  obtain ⟨u, hu, hc⟩ := nextPlace_can h
  rw [hv] at hu
  cases hu
  refine ⟨hc, ?_⟩
  unfold nextPlace at h
  cases l with
  | nil => cases h
  | cons x l =>
    simp only at h
    split at h
    · cases h
      exact ⟨fun h => absurd h (Nat.lt_irrefl _), fun j w hj => absurd hj (Nat.not_lt_zero _)⟩
    · split at h
      · cases h
      · rename_i hx
        cases hf : firstReader (x :: l) with
        | none => rw [hf] at h; cases h
        | some j =>
          rw [hf] at h
          simp only at h
          split at h
          · cases h
          · split at h
            · cases h
            · rename_i ha
              cases h
              have hrd : v.rd = true := by
                unfold firstReader at hf
                rw [List.findIdx?_eq_some_iff_getElem] at hf
                obtain ⟨hk, h1, _⟩ := hf
                obtain ⟨_, e⟩ := List.getElem?_eq_some_iff.mp hv
                rw [e] at h1
                exact h1
              refine ⟨fun _ => ⟨hrd, fun e => hx (.inr e)⟩, fun i w hi hw => ⟨first_ahead hf i w hi hw, ?_⟩⟩
              have hm : w ∈ (x :: l).take k := by
                refine List.mem_of_getElem? (i := i) ?_
                rw [List.getElem?_take_of_lt hi]
                exact hw
              have ha : ((x :: l).take k).any (fun o => decide (p ≤ o.n)) = false := by simpa using ha
              have := List.any_eq_false.mp ha w hm
              simp at this
              exact this

/-! ### the order of the line -/
def tl (l : List Wt) : List (Str × Bool) := l.map fun w => (w.name, w.rd)
theorem tl_bump (l : List Wt) : tl (l.map bump) = tl l := by unfold tl; rw [List.map_map]; rfl
theorem tl_app (a b : List Wt) : tl (a ++ b) = tl a ++ tl b := List.map_append
def ofB (b : Bool) (l : List (Str × Bool)) : List (Str × Bool) := l.filter fun p => p.2 == b
theorem ofB_app (b : Bool) (x y : List (Str × Bool)) : ofB b (x ++ y) = ofB b x ++ ofB b y := List.filter_append ..
theorem begun_order {r r1 : Rm} {p : Str × Bool} (ha : r.asking = none) (h : begun r = some (p, r1)) (b : Bool) : ofB b (tl r.waiting) = ofB b [p] ++ ofB b (tl r1.waiting) := by
  obtain ⟨hal, k, w, hn, hg, rfl, rfl⟩ := begun_plain ha h
  obtain ⟨_, s1, s2⟩ := next_says hn hg
  have e := split_at hg
  have e0 : ofB b (tl r.waiting) = ofB b (tl (r.waiting.take k)) ++ (ofB b [(w.name, w.rd)] ++ ofB b (tl (r.waiting.drop (k + 1)))) := by
    conv => lhs; rw [e]
    rw [tl_app, ofB_app, show tl (w :: r.waiting.drop (k + 1)) = [(w.name, w.rd)] ++ tl (r.waiting.drop (k + 1)) from rfl, ofB_app]
  show _ = _ ++ ofB b (tl ((r.waiting.take k).map bump ++ r.waiting.drop (k + 1)))
  rw [e0, tl_app, tl_bump, ofB_app]
  have hf : ∀ x ∈ tl (r.waiting.take k), x.2 = false := by
    intro x hx
    obtain ⟨v, hv, rfl⟩ := List.mem_map.mp hx
    obtain ⟨j, hj⟩ := List.getElem?_of_mem hv
    have hjk : j < k := by
      have := (List.getElem?_eq_some_iff.mp hj).1
      rw [List.length_take] at this
      omega
    rw [List.getElem?_take_of_lt hjk] at hj
    exact (s2 j v hjk hj).1
  by_cases hk : 0 < k
  · have hw := (s1 hk).1
    cases b with
    | true =>
      have : ofB true (tl (r.waiting.take k)) = [] := by
        unfold ofB
        rw [List.filter_eq_nil_iff]
        intro x hx
        rw [hf x hx]
        decide
      rw [this]
      rfl
    | false =>
      have : ofB false [(w.name, w.rd)] = [] := by rw [hw]; rfl
      rw [this]
      rfl
  · have : k = 0 := by omega
    subst this
    rfl
/-- who began, but for the one who had asked -/
def strip (o : Option Str) (l : List (Str × Bool)) : List (Str × Bool) := l.filter fun p => !(decide (o = some p.1) && !p.2)
theorem settle_order (o : Option Str) (b : Bool) : ∀ (n : Nat) (r : Rm), Inv r → (r.asking = none ∨ r.asking = o) → (∀ z, o = some z → z ∉ wNames r) →
    ofB b (strip o (settle n r).1) ++ ofB b (tl (settle n r).2.waiting) = ofB b (tl r.waiting) ∧ ((settle n r).2.asking = none ∨ (settle n r).2.asking = o) ∧ ∀ z ∈ wNames (settle n r).2, z ∈ wNames r
  | 0, r, I, h1, h2 => ⟨rfl, h1, fun z hz => hz⟩
  | n + 1, r, I, h1, h2 => by
    unfold settle
    cases hb : begun r with
    | none => exact ⟨rfl, h1, fun z hz => hz⟩
    | some q =>
      obtain ⟨p, r1⟩ := q
      have I1 := (begun_inv I hb).1
      have I2 : Inv (logB r1 p) := ⟨I1.seats, I1.rds, I1.nd, I1.ok, I1.alo, I1.ask⟩
      simp only
      cases ha : r.asking with
      | some z =>
        obtain ⟨_, rfl, rfl⟩ := begun_asked ha hb
        obtain ⟨i1, i2, i3⟩ := settle_order o b n _ I2 (.inl rfl) h2
        refine ⟨?_, i2, i3⟩
        have ho : o = some z := by
          rcases h1 with e | e
          · rw [ha] at e; cases e
          · rw [← e]; exact ha
        have : strip o ((z, false) :: (settle n (logB { r with alone := some z, asking := none, reading := [] } (z, false))).1) = strip o (settle n (logB { r with alone := some z, asking := none, reading := [] } (z, false))).1 := by
          unfold strip
          rw [List.filter_cons_of_neg (by rw [ho]; simp)]
        rw [this]
        exact i1
      | none =>
        have ho := begun_order ha hb b
        obtain ⟨hal, k, w, hn, hg, rfl, rfl⟩ := begun_plain ha hb
        have hmem : w.name ∈ wNames r := List.mem_map.mpr ⟨w, List.mem_of_getElem? hg, rfl⟩
        have hsub : ∀ z ∈ wNames (logB { r with reading := cond w.rd (r.reading ++ [w.name]) r.reading, alone := cond w.rd r.alone (some w.name), waiting := (r.waiting.take k).map bump ++ r.waiting.drop (k + 1) } (w.name, w.rd)), z ∈ wNames r := by
          intro z hz
          obtain ⟨v, hv, rfl⟩ := List.mem_map.mp hz
          rcases List.mem_append.mp hv with hv | hv
          · obtain ⟨u, hu, rfl⟩ := List.mem_map.mp hv
            exact List.mem_map.mpr ⟨u, List.mem_of_mem_take hu, rfl⟩
          · exact List.mem_map.mpr ⟨v, List.mem_of_mem_drop hv, rfl⟩
        obtain ⟨i1, i2, i3⟩ := settle_order o b n _ I2 (.inl ha) fun z hz hm => h2 z hz (hsub z hm)
        refine ⟨?_, i2, fun z hz => hsub z (i3 z hz)⟩
        rw [ho, ← show _ = ofB b (tl ((r.waiting.take k).map bump ++ r.waiting.drop (k + 1))) from i1, ← List.append_assoc]
        congr 1
        have : strip o ((w.name, w.rd) :: (settle n (logB { r with reading := cond w.rd (r.reading ++ [w.name]) r.reading, alone := cond w.rd r.alone (some w.name), waiting := (r.waiting.take k).map bump ++ r.waiting.drop (k + 1) } (w.name, w.rd))).1) = [(w.name, w.rd)] ++ strip o (settle n (logB { r with reading := cond w.rd (r.reading ++ [w.name]) r.reading, alone := cond w.rd r.alone (some w.name), waiting := (r.waiting.take k).map bump ++ r.waiting.drop (k + 1) } (w.name, w.rd))).1 := by
          unfold strip
          rw [List.filter_cons_of_pos (by
            have : ¬ o = some w.name := fun e => h2 _ e hmem
            rw [decide_eq_false this]
            rfl)]
          rfl
        rw [this, ofB_app]

/-! ### the plain laws' dict -/
def eN (r : Rm) : List (Str × D) := [("queue", .lst (eLine r.waiting)), ("reading", eNames r.reading), ("alone", optS r.alone), ("asked", optS r.asking)]
local macro_rules | `(tactic| walk_at "ln") => `(tactic| ((try unfold eN); repeat (first | rfl | rw [look, if_neg (by decide +kernel)] | rw [look, if_pos rfl] | rw [dput, if_neg (by decide +kernel)] | rw [dput, if_pos rfl])))
theorem ln_queue (r : Rm) : look (eN r) "queue" = some (.lst (eLine r.waiting)) := by walk_at "ln"
theorem ln_reading (r : Rm) : look (eN r) "reading" = some (eNames r.reading) := by walk_at "ln"
theorem ln_alone (r : Rm) : look (eN r) "alone" = some (optS r.alone) := by walk_at "ln"
theorem ln_asked (r : Rm) : look (eN r) "asked" = some (optS r.asking) := by walk_at "ln"
theorem dn_queue (r : Rm) (l : List Wt) : dput (eN r) "queue" (.lst (eLine l)) = eN { r with waiting := l } := by walk_at "ln"
theorem dn_reading (r : Rm) (l : List Str) : dput (eN r) "reading" (.lst (l.map .str)) = eN { r with reading := l } := by walk_at "ln"
theorem dn_reading0 (r : Rm) : dput (eN r) "reading" (.lst []) = eN { r with reading := [] } := by walk_at "ln"
theorem dn_reading1 (r : Rm) (z : Str) : dput (eN r) "reading" (.lst [.str z]) = eN { r with reading := [z] } := by walk_at "ln"
theorem dn_aloneO (r : Rm) (o : Option Str) : dput (eN r) "alone" (optS o) = eN { r with alone := o } := by walk_at "ln"
theorem dn_alone (r : Rm) (z : Str) : dput (eN r) "alone" (.str z) = eN { r with alone := some z } := dn_aloneO r (some z)
theorem dn_alone0 (r : Rm) : dput (eN r) "alone" .non = eN { r with alone := none } := dn_aloneO r none
theorem dn_asked (r : Rm) (z : Str) : dput (eN r) "asked" (.str z) = eN { r with asking := some z } := by walk_at "ln"
theorem dn_asked0 (r : Rm) : dput (eN r) "asked" .non = eN { r with asking := none } := by walk_at "ln"
theorem few_eN (r : Rm) : few 99 ((eN r).map (·.2)) = True := eq_true (by unfold eN; simp only [List.map_cons, List.map_nil, few])
theorem nod_eN (r : Rm) : ((eN r).map (·.1)).Nodup = True := eq_true (by unfold eN; simp only [List.map_cons, List.map_nil]; decide +kernel)
theorem fresh_eN (s p : Int) (l : List Rw) : ([("queue", .lst []), ("reading", .lst []), ("alone", .non), ("asked", .non)] : List (Str × D)) = eN ⟨s, p, [], none, none, [], l⟩ := rfl
theorem eN_log (r : Rm) (x : Rw) : eN (logR r x) = eN r := rfl
theorem eN_logB (r : Rm) (x : Str × Bool) : eN (logB r x) = eN r := rfl
-- SIMP ln_queue ln_reading ln_alone ln_asked dn_queue dn_reading dn_reading0 dn_reading1 dn_aloneO dn_alone dn_alone0 dn_asked dn_asked0 few_eN nod_eN
/-- a deed, as a tuple of which just so much is looked at -/
def isDeed (d : Dd) (l : List D) : Prop := nth l 0 = some (.str d.kind.word) ∧ nth l 1 = some (.str d.name) ∧ (d.kind = .came → nth l 2 = some (.str (wishS d.rd)))
theorem isDeed_eD (d : Dd) : ∃ l, eD d = .tup l ∧ isDeed d l := ⟨_, rfl, rfl, rfl, fun _ => rfl⟩
theorem isDeed_row (d : Dd) : ∃ l, eR (rowOf d) = .tup l ∧ isDeed d l := by
  obtain ⟨k, z, b⟩ := d
  cases k
  · exact ⟨_, rfl, rfl, rfl, fun _ => rfl⟩
  · exact ⟨_, rfl, rfl, rfl, fun h => by cases h⟩
  · exact ⟨_, rfl, rfl, rfl, fun h => by cases h⟩
  · exact ⟨_, rfl, rfl, rfl, fun h => by cases h⟩
/-- the place of who begins next -/
def placeOf (r : Rm) : Int := match r.asking with
  | some _ => -1
  | none => match nextPlace r.waiting r.seats r.patience r.reading.length r.alone.isSome with
    | some k => (k : Int)
    | none => 0
theorem placeOf_asked {r : Rm} {z : Str} (h : r.asking = some z) : placeOf r = -1 := by unfold placeOf; rw [h]
theorem placeOf_plain {r : Rm} (h : r.asking = none) (ha : r.alone = none) {k : Nat} (hn : nextPlace r.waiting r.seats r.patience r.reading.length false = some k) : placeOf r = (k : Int) := by
  unfold placeOf
  rw [h, ha]
  simp only
  rw [Option.isSome_none, hn]
theorem eqS_optS (o : Option Str) (z : Str) : eqS (optS o) (.str z) = some (decide (o = some z)) := by
  cases o with
  | none => rw [decide_eq_false (by simp)]; rfl
  | some y =>
    show some (decide (y = z)) = _
    by_cases e : y = z
    · subst e; rw [decide_eq_true rfl, decide_eq_true rfl]
    · rw [decide_eq_false e, decide_eq_false (fun h => e (Option.some.inj h))]
theorem eqS_optS2 (o : Option Str) : eqS (optS o) (optS o) = some true := by
  cases o with
  | none => rfl
  | some z => show some (decide (z = z)) = _; rw [decide_eq_true rfl]
-- SIMP eqS_optS2
theorem dcut_map {α β : Type} (f : α → β) (xs : List α) (lo hi : Option Int) : dcut (xs.map f) lo hi = (dcut xs lo hi).map f := by
  unfold dcut
  rw [List.length_map, ← List.map_drop, ← List.map_take]
theorem mem_dcut {α : Type} {xs : List α} {lo hi : Option Int} {x : α} (h : x ∈ dcut xs lo hi) : x ∈ xs := List.mem_of_mem_drop (List.mem_of_mem_take h)
/-! ### who begins next, as the plain laws look for it -/
theorem firstReader_at {l : List Wt} {k : Nat} {w : Wt} (h : l[k]? = some w) (hr : w.rd = true) (hn : ∀ (j : Nat) (w : Wt), j < k → l[j]? = some w → w.rd = false) : firstReader l = some k := by
  unfold firstReader
  rw [List.findIdx?_eq_some_iff_getElem]
  obtain ⟨hk, e⟩ := List.getElem?_eq_some_iff.mp h
  refine ⟨hk, by rw [e]; exact hr, fun j hj => ?_⟩
  rw [hn j _ hj (List.getElem?_eq_getElem (by omega))]
  decide
theorem firstReader_no {l : List Wt} (hn : ∀ (j : Nat) (w : Wt), l[j]? = some w → w.rd = false) : firstReader l = none := by
  unfold firstReader
  rw [List.findIdx?_eq_none_iff]
  intro w hw
  obtain ⟨j, hj⟩ := List.getElem?_of_mem hw
  exact hn j w hj
theorem next_eval {x : Wt} {l : List Wt} {s p r : Int} (hx : x.rd = false) (h0 : r ≠ 0) (hs : r < s) : nextPlace (x :: l) s p r false = match firstReader (x :: l) with
    | none => none
    | some k => if ((x :: l).take k).any (fun o => decide (p ≤ o.n)) = true then none else some k := by
  unfold nextPlace
  simp only
  have c1 : ¬ canB s r false x.rd = true := by
    rw [hx]
    show ¬ (decide (r = 0)) = true
    rw [decide_eq_false h0]
    decide
  have c2 : ¬ canB s r false true = false := by
    show ¬ (decide (r < s)) = false
    rw [decide_eq_true hs]
    decide
  rw [if_neg c1, if_neg (by rw [hx]; intro h; rcases h with h | h; cases h; exact h0 h)]
  cases firstReader (x :: l) with
  | none => rfl
  | some k => simp only; rw [if_neg c2]
def nextD (r : Rm) : D := match begun r with
  | none => .non
  | some _ => .int (placeOf r)
theorem begun_of_next {r : Rm} (ha : r.asking = none) (hn : nextPlace r.waiting r.seats r.patience r.reading.length r.alone.isSome = none) : begun r = none := by
  unfold begun
  rw [ha]
  simp only
  rw [hn]
theorem nextD_none {r : Rm} (h : begun r = none) : nextD r = .non := by unfold nextD; rw [h]
theorem nextD_some {r : Rm} {q : (Str × Bool) × Rm} (h : begun r = some q) : nextD r = .int (placeOf r) := by unfold nextD; rw [h]
theorem nextD_at {r : Rm} (ha : r.asking = none) (hal : r.alone = none) {k : Nat} (hn : nextPlace r.waiting r.seats r.patience r.reading.length false = some k) : nextD r = .int (k : Int) := by
  have hk := nextPlace_lt hn
  have hb : ∃ q, begun r = some q := by
    unfold begun
    rw [ha]
    simp only
    rw [hal, Option.isSome_none, hn]
    simp only
    rw [List.getElem?_eq_getElem hk]
    exact ⟨_, rfl⟩
  obtain ⟨q, hb⟩ := hb
  rw [nextD_some hb, placeOf_plain ha hal hn]
theorem settle_stop {r : Rm} (h : begun r = none) : ∀ n, settle n r = ([], r)
  | 0 => rfl
  | n + 1 => by unfold settle; rw [h]
theorem eqv_refl_lst {n : Nat} (h : ∀ d, flatN n d = true → D.eqv d d = true) : ∀ xs : List D, flatL n xs = true → D.eqv (.lst xs) (.lst xs) = true
  | [], _ => rfl
  | x :: xs, hf => by
    rw [flatL_cons, Bool.and_eq_true] at hf
    rw [eqv_lst_cons, h x hf.1, eqv_refl_lst h xs hf.2]
    rfl
theorem eqv_refl : ∀ (n : Nat) (d : D), flatN n d = true → D.eqv d d = true
  | n, .non, _ => rfl
  | n, .bl b, _ => by cases b <;> rfl
  | n, .int i, _ => by rw [eqv_int]; exact decide_eq_true rfl
  | n, .str s, _ => by rw [eqv_str]; exact decide_eq_true rfl
  | 0, .lst xs, h => by simp [flatN] at h
  | 0, .tup xs, h => by simp [flatN] at h
  | n + 1, .lst xs, h => eqv_refl_lst (eqv_refl n) xs (by rw [← flatN_lst]; exact h)
  | n + 1, .tup xs, h => by rw [eqv_tup]; exact eqv_refl_lst (eqv_refl n) xs (by rw [← flatN_tup]; exact h)
  | n, .dic kvs, h => by cases n <;> simp [flatN] at h
  | n, .scr ns, h => by cases n <;> simp [flatN] at h
  | n, .obj a, h => by cases n <;> simp [flatN] at h
  | n, .ty a, h => by cases n <;> simp [flatN] at h

local macro_rules | `(tactic| walk_at "dl") => `(tactic| try simp -implicitDefEqProofs only [DL.dNext, DL.dSeq, DL.dExpr, DL.dRet, DL.dIfS, DL.dSet, DL.dCont, DL.dRaise, DL.dFor, DL.dgName, DL.dgPair, DL.dTry, DL.dFn, DL.dMth, DL.dMk, DL.dFld, DL.dFldS, DL.dPut, DL.dVar, DL.slot, DL.dC, DL.dOp, DL.dUn, DL.oSub, DL.oMul, DL.oDiv, DL.oMod, DL.oPow, DL.oLt, DL.oLe, DL.oGt, DL.oGe, DL.oEq, DL.oNe, DL.oIn, DL.oNotIn, DL.dB, DL.dIsN, DL.dChain, DL.dAnd, DL.dOr, DL.dNot, DL.dAndV, DL.dOrV, DL.dNotV, DL.dIf, DL.dNil, DL.dCons, DL.few, DL.dLst, DL.dTup, DL.dLstM, DL.dFrz, DL.dPairs, DL.dDisp, DL.dDic0, DL.dSl, DL.dNoPart, DL.dCall, DL.dMet0L, DL.dMet, DL.dItems, DL.dRange1, DL.dEnum, DL.dLcM, DL.dwipe, DL.startD, DL.dNever, DL.el_some, DL.elL_lst, DL.elD_dic, DL.elI_ins, DL.res_non, DL.res_bl, DL.res_int, DL.res_str, DL.res_lst, DL.res_tupE, DL.res_dic, DL.res_scr, DL.res_ty, DL.oAdd_eq, DL.addR_int, DL.addR_str, DL.addR_lst, DL.addR_tup, DL.oAddM_eq, DL.addMR_lst, DL.oInt_eq, DL.intR_int, DL.oInt0_eq, DL.int0R_int, DL.oNeg_eq, DL.negR_int, DL.oEqN_eq, DL.eqR_some, DL.eqR_none, DL.eqS_non_non, DL.eqS_non_int, DL.eqS_non_bl, DL.eqS_non_str, DL.eqS_non_lst, DL.eqS_non_tup, DL.eqS_int_non, DL.eqS_int_int, DL.eqS_int_bl, DL.eqS_int_str, DL.eqS_int_lst, DL.eqS_int_tup, DL.eqS_bl_non, DL.eqS_bl_int, DL.eqS_bl_bl, DL.eqS_bl_str, DL.eqS_bl_lst, DL.eqS_bl_tup, DL.eqS_str_non, DL.eqS_str_int, DL.eqS_str_bl, DL.eqS_str_str, DL.eqS_str_lst, DL.eqS_str_tup, DL.eqS_lst_non, DL.eqS_lst_int, DL.eqS_lst_bl, DL.eqS_lst_str, DL.eqS_lst_lst, DL.eqS_lst_tup, DL.eqS_tup_non, DL.eqS_tup_int, DL.eqS_tup_bl, DL.eqS_tup_str, DL.eqS_tup_lst, DL.eqS_tup_tup, DL.eqS_obj_non, DL.eqS_non_obj, DL.eqS_obj_int, DL.eqS_int_obj, DL.eqS_obj_bl, DL.eqS_bl_obj, DL.eqS_obj_str, DL.eqS_str_obj, DL.eqS_obj_lst, DL.eqS_lst_obj, DL.eqS_obj_tup, DL.eqS_tup_obj, DL.eqS_obj_obj, DL.oInN_eq, DL.inR_lst, DL.inR_tup, DL.inR_str, DL.flatD_non, DL.flatD_bl, DL.flatD_int, DL.flatD_str, DL.asB_bl, DL.isN_non, DL.isN_bl, DL.isN_int, DL.isN_str, DL.isN_lst, DL.isN_tup, DL.isN_dic, DL.isN_scr, DL.isN_ty, DL.isN_obj, DL.frz_non, DL.frz_bl, DL.frz_int, DL.frz_str, DL.frz_lst, DL.frz_tup, DL.frz_dic, DL.frz_scr, DL.frz_ty, DL.oIx_eq, DL.ixR_lst, DL.ixR_tup, DL.ixR_scr, DL.ixR_str, DL.ixR_dic, DL.nth_0, DL.nth_1, DL.nth_2, DL.nth_3, DL.oSl_eq, DL.slR_lst, DL.slR_tup, DL.slR_str, DL.dPart_eq, DL.partR_int, DL.on1_cons, DL.on2_cons, DL.lenD_lst, DL.lenD_tup, DL.lenD_scr, DL.lenD_str, DL.intD_int, DL.intD_bl, DL.strD_int, DL.int2_int, DL.listM_lst, DL.listF_lst, DL.listM_tup, DL.listF_tup, DL.dictM_dic, DL.isiD_ty, DL.oAppend_obj, DL.oInsert_obj, DL.oPop_obj, DL.oPopAt_obj, DL.isLst_eq, DL.isLstR_lst, DL.isStr_str, DL.oSplit_str, DL.oJoin_str, DL.itemsOf_lst, DL.itemsOf_tup, DL.itemsOf_str, DL.rng1_int, DL.enumOf_lst, DL.two_tup, DL.insIs_obj, DL.getFld_obj, DL.setFld_obj, DL.putDic_obj, DL.isB_str_non, DL.isB_str_bl, DL.isB_str_int, DL.isB_str_str, DL.isB_str_lst, DL.isB_str_tup, DL.isB_str_dic, DL.isB_int_non, DL.isB_int_bl, DL.isB_int_int, DL.isB_int_str, DL.isB_int_lst, DL.isB_int_tup, DL.isB_int_dic, DL.isB_bool_non, DL.isB_bool_bl, DL.isB_bool_int, DL.isB_bool_str, DL.isB_bool_lst, DL.isB_bool_tup, DL.isB_bool_dic, DL.isB_list_non, DL.isB_list_bl, DL.isB_list_int, DL.isB_list_str, DL.isB_list_lst, DL.isB_list_tup, DL.isB_list_dic, DL.isB_tuple_non, DL.isB_tuple_bl, DL.isB_tuple_int, DL.isB_tuple_str, DL.isB_tuple_lst, DL.isB_tuple_tup, DL.isB_tuple_dic, Bool.cond_true, Bool.cond_false, L2.CDiv, Int.reduceLT, Int.reduceLE, true_and, and_true, cond_true, cond_false, List.map_cons, List.map_nil, List.set_cons_zero, List.set_cons_succ, List.set_nil, DL.cpow_109, DL.pow_109, DL.frz_set_lst, DL.frz_set_dic, Bool.not_true, Bool.not_false, DL.itemsOf_obj, DL.enumOf_obj, DL.all_still, okD_non, okD_bl, okD_int, okD_str, okD_lst, okD_tup, okD_dic, res_set_lst, Mem.set_same, Mem.set_set, lk_seats, lk_patience, lk_reading, lk_alone, lk_asking, lk_waiting, lk_rows, no_is_inside, no_is_waiting, no_look, no_come, no_leave, no_ask, no_ease, no_settled, no_begun, no_readers, no_writer, no_asker, no_line, no_passed, no_journal, dp_reading, dp_reading0, dp_reading1, dp_alone, dp_alone0, dp_asking, dp_asking0, dp_waiting, dp_rows, few_flds, eNames, isN_optS, res_optS, optS_some, optS_none, Option.isNone_none, Option.isNone_some, ln_queue, ln_reading, ln_alone, ln_asked, dn_queue, dn_reading, dn_reading0, dn_reading1, dn_aloneO, dn_alone, dn_alone0, dn_asked, dn_asked0, few_eN, nod_eN, eqS_optS2])
/-! ### journals looked at -/
inductive PR where
  | came (x y : Str)
  | begins (x y : Str)
  | left (x : Str)
  | asked (x : Str)
  | eased (x : Str)
def PR.words : PR → List Str
  | .came x y => [Str.ofString "came", x, y]
  | .begins x y => [Str.ofString "begins", x, y]
  | .left x => [Str.ofString "left", x]
  | .asked x => [Str.ofString "asked", x]
  | .eased x => [Str.ofString "eased", x]
def parse3 (w x y : Str) : Option PR := if w = Str.ofString "came" then some (.came x y) else if w = Str.ofString "begins" then some (.begins x y) else none
def parse2 (w x : Str) : Option PR := if w = Str.ofString "left" then some (.left x) else if w = Str.ofString "asked" then some (.asked x) else if w = Str.ofString "eased" then some (.eased x) else none
def parseD : D → Option PR
  | .tup [.str w, .str x, .str y] => parse3 w x y
  | .tup [.str w, .str x] => parse2 w x
  | _ => none
theorem parse_words {d : D} {w : PR} (h : parseD d = some w) : d = .tup (w.words.map .str) := by
  unfold parseD at h
  split at h
  · unfold parse3 at h
    split at h
    · rename_i e; cases h; rw [e]; rfl
    · split at h
      · rename_i e; cases h; rw [e]; rfl
      · cases h
  · unfold parse2 at h
    split at h
    · rename_i e; cases h; rw [e]; rfl
    · split at h
      · rename_i e; cases h; rw [e]; rfl
      · split at h
        · rename_i e; cases h; rw [e]; rfl
        · cases h
  · cases h
theorem parse_came (x y : Str) : parseD (.tup [.str (Str.ofString "came"), .str x, .str y]) = some (.came x y) := by
  show parse3 _ _ _ = _
  unfold parse3
  rw [if_pos rfl]
theorem parse_begins (x y : Str) : parseD (.tup [.str (Str.ofString "begins"), .str x, .str y]) = some (.begins x y) := by
  show parse3 _ _ _ = _
  unfold parse3
  rw [if_neg (by decide +kernel), if_pos rfl]
theorem parse_left (x : Str) : parseD (.tup [.str (Str.ofString "left"), .str x]) = some (.left x) := by
  show parse2 _ _ = _
  unfold parse2
  rw [if_pos rfl]
theorem parse_asked (x : Str) : parseD (.tup [.str (Str.ofString "asked"), .str x]) = some (.asked x) := by
  show parse2 _ _ = _
  unfold parse2
  rw [if_neg (by decide +kernel), if_pos rfl]
theorem parse_eased (x : Str) : parseD (.tup [.str (Str.ofString "eased"), .str x]) = some (.eased x) := by
  show parse2 _ _ = _
  unfold parse2
  rw [if_neg (by decide +kernel), if_neg (by decide +kernel), if_pos rfl]
def prOf : Rw → PR
  | .came z b => .came z (wishS b)
  | .begins z b => .begins z (wishS b)
  | .left z => .left z
  | .asked z => .asked z
  | .eased z => .eased z
theorem parse_eR (x : Rw) : parseD (eR x) = some (prOf x) := by
  cases x with
  | came z b => exact parse_came z (wishS b)
  | begins z b => exact parse_begins z (wishS b)
  | left z => exact parse_left z
  | asked z => exact parse_asked z
  | eased z => exact parse_eased z
def doW (r : Rm) : PR → Out
  | .came x y => comeO r (.str x) (.str y)
  | .begins _ _ => .no .name
  | .left x => leaveO r (.str x)
  | .asked x => askO r (.str x)
  | .eased x => easeO r (.str x)
theorem doW_row (r : Rm) (d : Dd) : doW r (prOf (rowOf d)) = doO r d := by
  obtain ⟨k, z, b⟩ := d
  cases k <;> rfl
/-- what is done was a deed with a name and a wish -/
theorem doW_did {r : Rm} {w : PR} {l : List (Str × Bool)} {r' : Rm} (h : doW r w = .did l r') : ∃ d : Dd, nameOk d.name = true ∧ w = prOf (rowOf d) ∧ doO r d = .did l r' := by
  have here : ∀ x, ¬ hereB r (.str x) = false → nameOk x = true := fun x hx => by
    have hx : (nameOk x && (insideB r x || waitsB r x)) = true := by
      have : ¬ (nameOk x && (insideB r x || waitsB r x)) = false := hx
      rw [Bool.not_eq_false] at this
      exact this
    exact (Bool.and_eq_true_iff.mp hx).1
  cases w with
  | came x y =>
    have h' : comeO r (.str x) (.str y) = .did l r' := h
    unfold comeO at h'
    split at h'
    · cases h'
    rename_i hn
    split at h'
    · cases h'
    rename_i hy
    have hn : nameOk x = true := by simpa [isName] using hn
    have hy : isWish (.str y) = true := by simpa using hy
    obtain ⟨b, e⟩ := isWish_str hy
    cases e
    exact ⟨⟨.came, x, b⟩, hn, rfl, h⟩
  | begins x y => cases h
  | left x =>
    have h' : leaveO r (.str x) = .did l r' := h
    unfold leaveO at h'
    split at h'
    · cases h'
    rename_i hh
    exact ⟨⟨.left, x, true⟩, here x hh, rfl, h⟩
  | asked x =>
    have h' : askO r (.str x) = .did l r' := h
    unfold askO at h'
    split at h'
    · cases h'
    rename_i hh
    exact ⟨⟨.asked, x, true⟩, here x hh, rfl, h⟩
  | eased x =>
    have h' : easeO r (.str x) = .did l r' := h
    unfold easeO at h'
    split at h'
    · cases h'
    rename_i hh
    exact ⟨⟨.eased, x, true⟩, here x hh, rfl, h⟩
abbrev Due := List (Str × Bool)
def stepW (r : Rm) : Due → PR → Option (Rm × Due)
  | p :: rest, .begins x y => if x = p.1 ∧ y = wishS p.2 then some (r, rest) else none
  | _ :: _, _ => none
  | [], w => match doW r w with
    | .did l r' => some (r', l)
    | .no _ => none
def stepO (r : Rm) (due : Due) (d : D) : Option (Rm × Due) := match parseD d with
  | none => none
  | some w => stepW r due w
inductive GR where
  | stop (k : Nat)
  | ok (r : Rm) (due : Due)
def gtGo : Nat → Rm → Due → List D → GR
  | _, r, due, [] => .ok r due
  | k, r, due, d :: ds => match stepO r due d with
    | none => .stop k
    | some (r', due') => gtGo (k + 1) r' due' ds
theorem gtGo_cons (k : Nat) (r : Rm) (due : Due) (d : D) (ds : List D) : gtGo k r due (d :: ds) = match stepO r due d with
    | none => .stop k
    | some (r', due') => gtGo (k + 1) r' due' ds := rfl
theorem gtGo_nil (k : Nat) (r : Rm) (due : Due) : gtGo k r due [] = .ok r due := rfl
theorem gtGo_app : ∀ (as : List D) (k : Nat) (r : Rm) (due : Due) (bs : List D), gtGo k r due (as ++ bs) = match gtGo k r due as with
    | .stop j => .stop j
    | .ok r' due' => gtGo (k + as.length) r' due' bs
  | [], k, r, due, bs => rfl
  | d :: as, k, r, due, bs => by
    rw [List.cons_append, gtGo_cons, gtGo_cons]
    cases stepO r due d with
    | none => rfl
    | some q =>
      obtain ⟨r', due'⟩ := q
      simp only
      rw [gtGo_app as (k + 1) r' due' bs, List.length_cons]
      rw [show k + 1 + as.length = k + (as.length + 1) by omega]
def goneV (n : Nat) : GR → D
  | .stop k => .int (k : Int)
  | .ok _ [] => .non
  | .ok _ (_ :: _) => .int (n : Int)
theorem gtGo_begins (r : Rm) : ∀ (l : Due) (k : Nat), gtGo k r l (eRows (l.map fun p => .begins p.1 p.2)) = .ok r []
  | [], k => rfl
  | p :: l, k => by
    show gtGo k r (p :: l) (eR (.begins p.1 p.2) :: eRows (l.map fun p => .begins p.1 p.2)) = _
    rw [gtGo_cons]
    unfold stepO
    rw [parse_eR]
    show (match (if p.1 = p.1 ∧ wishS p.2 = wishS p.2 then some (r, l) else none) with | none => GR.stop k | some (r', due') => gtGo (k + 1) r' due' _) = _
    rw [if_pos ⟨rfl, rfl⟩]
    exact gtGo_begins r l (k + 1)
theorem settle_rows : ∀ (n : Nat) (r : Rm), (settle n r).2.rows = r.rows ++ (settle n r).1.map fun p => Rw.begins p.1 p.2
  | 0, r => (List.append_nil _).symm
  | n + 1, r => by
    unfold settle
    cases h : begun r with
    | none => exact (List.append_nil _).symm
    | some q =>
      obtain ⟨p, r1⟩ := q
      simp only
      rw [settle_rows n (logB r1 p), List.map_cons]
      show (r1.rows ++ [Rw.begins p.1 p.2]) ++ _ = _
      rw [(begun_spec h).2.2, List.append_assoc]
      rfl
/-- the journal of a room goes on with a deed -/
theorem gtGo_deed {r0 r : Rm} (h : gtGo 0 r0 [] (eRows r.rows) = .ok r []) {d : Dd} {l : Due} {r' : Rm} (ho : doO r d = .did l r') (hr : r'.rows = (r.rows ++ [rowOf d]) ++ l.map fun p => Rw.begins p.1 p.2) : gtGo 0 r0 [] (eRows r'.rows) = .ok r' [] := by
  rw [hr, eRows_app, eRows_app, List.append_assoc, gtGo_app, h]
  simp only
  show gtGo _ r [] (eR (rowOf d) :: eRows (l.map fun p => Rw.begins p.1 p.2)) = _
  rw [gtGo_cons]
  unfold stepO
  rw [parse_eR]
  show (match (match doW r (prOf (rowOf d)) with | .did l r' => some (r', l) | .no _ => none) with | none => GR.stop _ | some (r', due') => gtGo _ r' due' _) = _
  rw [doW_row, ho]
  exact gtGo_begins r' l _
def rowOk : D → Bool
  | .tup l => l.all okD
  | d => okD d
def isStrD : D → Bool
  | .str _ => true
  | _ => false
theorem parse_nostr {l : List D} {x : D} (h : x ∈ l) (hx : isStrD x = false) : parseD (.tup l) = none := by
  cases e : parseD (.tup l) with
  | none => rfl
  | some w =>
    have := parse_words e
    cases this
    obtain ⟨z, _, rfl⟩ := List.mem_map.mp h
    cases hx
theorem parse_len {l : List D} {w : PR} (h : parseD (.tup l) = some w) : 2 ≤ l.length ∧ l.length ≤ 3 := by
  have := parse_words h
  cases this
  rw [List.length_map]
  cases w <;> exact ⟨by simp [PR.words], by simp [PR.words]⟩
theorem all_strs : ∀ {l : List D}, (∀ x ∈ l, isStrD x = true) → ∃ ss : List Str, l = ss.map .str
  | [], _ => ⟨[], rfl⟩
  | x :: l, h => by
    obtain ⟨ss, rfl⟩ := all_strs (l := l) fun y hy => h y (List.mem_cons_of_mem _ hy)
    have := h x List.mem_cons_self
    cases x with
    | str z => exact ⟨z :: ss, rfl⟩
    | _ => cases this
theorem Vw.enumW {d : D} {ds : List D} {M : Mem} (h : Vw d ds M) {F : List D → (Mem → Prop) → Prop} (k : ∀ P : Mem → Prop, (∀ M', Vw d ds M' → P M') → F (enumD 0 ds) P) : enumOf [d] M F := by
  rcases h with rfl | ⟨a, rfl, h⟩
  · exact k _ fun _ _ => trivial
  · rw [enumOf_obj, h]
    refine k _ fun M' hv => ?_
    rcases hv with e | ⟨b, e, hb⟩
    · cases e
    · cases e; exact hb
theorem Vw.room {A : Adr} {d : D} {ds : List D} {M : Mem} {a : Addr} {r : Rm} (h : Vw d ds M) (ha : At A M a r) (o : MO) : Vw d ds (M.set a o) := by
  rcases h with rfl | ⟨b, rfl, h⟩
  · exact .inl rfl
  · refine .inr ⟨b, rfl, ?_⟩
    rw [Mem.set_ne (fun e => by
      subst e
      have : M b = some (.ins A.Room (flds r)) := ha
      rw [h] at this
      cases this)]
    exact h

/-! ### rows of any kind -/
abbrev Ext (M M' : Mem) : Prop := ∀ c, M c ≠ none → M' c = M c
theorem Ext.refl (M : Mem) : Ext M M := fun _ _ => rfl
theorem Ext.trans {M M' M'' : Mem} (h : Ext M M') (k : Ext M' M'') : Ext M M'' := fun c hc => by
  rw [k c (by rw [h c hc]; exact hc), h c hc]
theorem Ext.set {M : Mem} {p : Addr} {o : MO} (h : M p = none) : Ext M (M.set p o) := fun c hc => Mem.set_ne fun e => hc (by rw [e]; exact h)
theorem Ext.some {M M' : Mem} (h : Ext M M') {c : Addr} {o : MO} (hc : M c = some o) : M' c = some o := by
  rw [h c (by rw [hc]; exact fun e => by cases e)]
  exact hc
theorem Ext.vw {M M' : Mem} (h : Ext M M') {d : D} {ds : List D} (v : Vw d ds M) : Vw d ds M' := by
  rcases v with rfl | ⟨a, rfl, v⟩
  · exact .inl rfl
  · exact .inr ⟨a, rfl, h.some v⟩
theorem Ext.item {M M' : Mem} (h : Ext M M') {d : D} (v : itemF M d) : itemF M' d := by
  rcases v with v | ⟨p, kvs, rfl, v⟩
  · exact .inl v
  · exact .inr ⟨p, kvs, rfl, h.some v⟩
theorem item_set {M : Mem} {g : Addr} {l : List D} {o : MO} (hg : M g = some (.lst l)) {d : D} (v : itemF M d) : itemF (M.set g o) d := by
  rcases v with v | ⟨p, kvs, rfl, v⟩
  · exact .inl v
  · refine .inr ⟨p, kvs, rfl, ?_⟩
    rw [Mem.set_ne (fun e => by subst e; rw [hg] at v; cases v)]
    exact v
theorem item_ins {M : Mem} {g : Addr} {C : Addr} {fs : List (Str × D)} {o : MO} (hg : M g = some (.ins C fs)) {d : D} (v : itemF M d) : itemF (M.set g o) d := by
  rcases v with v | ⟨p, kvs, rfl, v⟩
  · exact .inl v
  · refine .inr ⟨p, kvs, rfl, ?_⟩
    rw [Mem.set_ne (fun e => by subst e; rw [hg] at v; cases v)]
    exact v
theorem flat_okD : ∀ {n : Nat} {d : D}, flatN n d = true → okD d = true
  | n, .scr _, h => by cases n <;> simp [flatN] at h
  | n, .obj _, h => by cases n <;> simp [flatN] at h
  | n, .ty _, h => by cases n <;> simp [flatN] at h
  | _, .non, _ => rfl
  | _, .bl _, _ => rfl
  | _, .int _, _ => rfl
  | _, .str _, _ => rfl
  | _, .lst _, _ => rfl
  | _, .tup _, _ => rfl
  | _, .dic _, _ => rfl
theorem flatL_okD {n : Nat} : ∀ {l : List D}, flatL n l = true → l.all okD = true
  | [], _ => rfl
  | x :: l, h => by
    rw [flatL_cons, Bool.and_eq_true] at h
    rw [List.all_cons, flat_okD h.1, flatL_okD h.2]
    rfl
theorem flat_tup_all {l : List D} (h : flatN 8 (.tup l) = true) : l.all okD = true := by
  rw [flatN_tup] at h
  exact flatL_okD h
theorem flat_up : ∀ {n : Nat} {d : D}, flatN n d = true → flatN (n + 1) d = true := by
  intro n
  induction n with
  | zero =>
    intro d h
    cases d with
    | non => rfl
    | bl _ => rfl
    | int _ => rfl
    | str _ => rfl
    | _ => simp [flatN] at h
  | succ n ih =>
    have hl : ∀ l : List D, flatL n l = true → flatL (n + 1) l = true := by
      intro l
      induction l with
      | nil => intro _; rfl
      | cons x l ih2 =>
        intro h
        rw [flatL_cons, Bool.and_eq_true] at h
        rw [flatL_cons, ih h.1, ih2 h.2]
        rfl
    intro d h
    cases d with
    | non => rfl
    | bl _ => rfl
    | int _ => rfl
    | str _ => rfl
    | lst l => rw [flatN_lst] at h ⊢; exact hl l h
    | tup l => rw [flatN_tup] at h ⊢; exact hl l h
    | _ => simp [flatN] at h
theorem eqv_dstr {d : D} {z : Str} (h : D.eqv d (.str z) = true) : d = .str z := by
  cases d with
  | str y => rw [eqv_str] at h; rw [of_decide_eq_true h]
  | _ => cases h
theorem eqv_dstrs : ∀ {l : List D} {ss : List Str}, D.eqv (.lst l) (.lst (ss.map .str)) = true → l = ss.map .str
  | [], [], _ => rfl
  | [], _ :: _, h => by cases h
  | _ :: _, [], h => by cases h
  | x :: l, s :: ss, h => by
    rw [List.map_cons, eqv_lst_cons, Bool.and_eq_true] at h
    rw [List.map_cons, eqv_dstr h.1, eqv_dstrs h.2]
def begT (p : Str × Bool) : D := .tup ([.str (Str.ofString "begins")] ++ [.str p.1, .str (wishS p.2)])
theorem begT_words (p : Str × Bool) : begT p = .tup ([Str.ofString "begins", p.1, wishS p.2].map .str) := rfl
theorem flat_begT (p : Str × Bool) : flatN 9 (begT p) = true := by
  rw [begT_words, flatN_tup]
  exact flat_strs _ _
theorem ne_begins {M : Mem} {d : D} {p : Str × Bool} {Q : QD} (h : itemF M d) (h1 : d = begT p → Q (.bl false) M) (h2 : d ≠ begT p → Q (.bl true) M) : oEqX true d (begT p) M Q := by
  rcases h with h | ⟨a, kvs, rfl, h⟩
  · refine .inl ?_
    have go : (D.eqv d (begT p) = true → d = begT p) → eqS d (begT p) = none → res M d = d → oEqN true d (begT p) M Q := by
      intro e hs hr
      unfold oEqN
      rw [hs]
      show flatN 9 (res M d) = true ∧ flatN 9 (begT p) = true ∧ Q (.bl (!D.eqv (res M d) (begT p))) M
      rw [hr]
      refine ⟨flat_up h, flat_begT p, ?_⟩
      cases c : D.eqv d (begT p) with
      | true => exact h1 (e c)
      | false =>
        refine h2 fun e2 => ?_
        subst e2
        rw [eqv_refl 9 _ (flat_begT p)] at c
        cases c
    cases d with
    | tup l => exact go (fun e => by
        rw [begT_words, eqv_tup] at e
        rw [begT_words, eqv_dstrs e]) rfl rfl
    | non => exact go (fun e => by cases e) rfl rfl
    | bl b => exact go (fun e => by cases e) rfl rfl
    | int b => exact go (fun e => by cases e) rfl rfl
    | str b => exact go (fun e => by cases e) rfl rfl
    | lst b => exact go (fun e => by cases e) rfl rfl
    | _ => simp [flatN] at h
  · exact .inr (.inr ⟨rfl, a, kvs, _, rfl, h, rfl, h2 fun e => by cases e⟩)
theorem item_rowOk {M : Mem} {d : D} (h : itemF M d) : rowOk (res M d) = true := by
  rcases h with h | ⟨a, kvs, rfl, h⟩
  · cases d with
    | tup l => exact flat_tup_all h
    | non => rfl
    | bl b => rfl
    | int b => rfl
    | str b => rfl
    | lst b => rfl
    | _ => simp [flatN] at h
  · rw [res_objD h]
    rfl
theorem flat_row (x : Rw) : flatN 8 (eR x) = true := by
  unfold eR
  rw [flatN_tup]
  exact flat_strs _ _
theorem item_rows {M : Mem} {l : List Rw} {d : D} (h : d ∈ eRows l) : itemF M d := by
  unfold eRows at h
  obtain ⟨x, _, rfl⟩ := List.mem_map.mp h
  exact .inl (flat_row x)
/-! a row that is formed -/
def PR.name : PR → Str
  | .came x _ => x
  | .begins x _ => x
  | .left x => x
  | .asked x => x
  | .eased x => x
def PR.wok : PR → Bool
  | .came _ y => isWish (.str y)
  | .begins _ y => isWish (.str y)
  | _ => true
def formedD (d : D) : Bool := match parseD d with
  | none => false
  | some w => nameOk w.name && w.wok
/-- the plain room that goes with what is due -/
def Rel (r : Rm) (due : Due) (m : Rm) : Prop := ∃ n, meas m ≤ n ∧ settle n m = (due, r)
theorem Rel.rest {r m : Rm} (h : Rel r [] m) : m = r ∧ begun r = none := by
  obtain ⟨n, hn, e⟩ := h
  cases hb : begun m with
  | none =>
    rw [settle_stop hb] at e
    cases e
    exact ⟨rfl, hb⟩
  | some q =>
    obtain ⟨p, r1⟩ := q
    obtain ⟨n, rfl⟩ : ∃ k, n = k + 1 := ⟨n - 1, by have := (begun_spec hb).1; omega⟩
    unfold settle at e
    rw [hb] at e
    cases e
theorem Rel.next {r m : Rm} {p : Str × Bool} {rest : Due} (h : Rel r (p :: rest) m) : ∃ r1, begun m = some (p, r1) ∧ Rel r rest (logB r1 p) := by
  obtain ⟨n, hn, e⟩ := h
  cases hb : begun m with
  | none => rw [settle_stop hb] at e; cases e
  | some q =>
    obtain ⟨p', r1⟩ := q
    have hs := (begun_spec hb).1
    obtain ⟨n, rfl⟩ : ∃ k, n = k + 1 := ⟨n - 1, by omega⟩
    unfold settle at e
    rw [hb] at e
    simp only [Prod.mk.injEq, List.cons.injEq] at e
    obtain ⟨⟨rfl, e2⟩, e3⟩ := e
    exact ⟨r1, rfl, n, by rw [meas_log]; omega, Prod.ext e2 e3⟩
theorem step_due (r : Rm) (p : Str × Bool) (rest : Due) : stepO r (p :: rest) (begT p) = some (r, rest) := by
  unfold stepO
  rw [show parseD (begT p) = some (.begins p.1 (wishS p.2)) from parse_begins _ _]
  exact if_pos ⟨rfl, rfl⟩
theorem step_no {r : Rm} {p : Str × Bool} {rest : Due} {d : D} (h : d ≠ begT p) : stepO r (p :: rest) d = none := by
  unfold stepO
  cases e : parseD d with
  | none => rfl
  | some w =>
    have := parse_words e
    cases w with
    | begins x y =>
      refine if_neg fun hh => h ?_
      rw [this, begT_words, ← hh.1, ← hh.2]
      rfl
    | _ => rfl
theorem formed_deed {d : D} (h : formedD d = true) : (∃ x y, parseD d = some (.begins x y)) ∨ ∃ dd : Dd, nameOk dd.name = true ∧ parseD d = some (prOf (rowOf dd)) := by
  unfold formedD at h
  cases e : parseD d with
  | none => rw [e] at h; cases h
  | some w =>
    rw [e] at h
    have h : (nameOk w.name && w.wok) = true := h
    obtain ⟨h1, h2⟩ := Bool.and_eq_true_iff.mp h
    cases w with
    | begins x y => exact .inl ⟨x, y, rfl⟩
    | came x y =>
      obtain ⟨b, e2⟩ := isWish_str (d := .str y) h2
      cases e2
      exact .inr ⟨⟨.came, x, b⟩, h1, rfl⟩
    | left x => exact .inr ⟨⟨.left, x, true⟩, h1, rfl⟩
    | asked x => exact .inr ⟨⟨.asked, x, true⟩, h1, rfl⟩
    | eased x => exact .inr ⟨⟨.eased, x, true⟩, h1, rfl⟩
theorem deed_formed {r : Rm} {d : D} {w : PR} {l : Due} {r' : Rm} (e : parseD d = some w) (h : doW r w = .did l r') : formedD d = true := by
  obtain ⟨dd, hn, rfl, _⟩ := doW_did h
  unfold formedD
  rw [e]
  obtain ⟨k, z, b⟩ := dd
  have hn : nameOk z = true := hn
  have hw : isWish (.str (wishS b)) = true := by
    show (decide (wishS b = Str.ofString "read") || decide (wishS b = Str.ofString "write")) = true
    rw [wishS_read, wishS_write]
    cases b <;> rfl
  cases k with
  | came => show (nameOk z && isWish (.str (wishS b))) = true; rw [hn, hw]; rfl
  | left => show (nameOk z && true) = true; rw [hn]; rfl
  | asked => show (nameOk z && true) = true; rw [hn]; rfl
  | eased => show (nameOk z && true) = true; rw [hn]; rfl
theorem step_unformed {r : Rm} {d : D} (h : formedD d = false) : stepO r [] d = none := by
  unfold stepO
  cases e : parseD d with
  | none => rfl
  | some w =>
    show (match doW r w with | .did l r' => some (r', l) | .no _ => none) = none
    cases hd : doW r w with
    | no c => rfl
    | did l r' => rw [deed_formed e hd] at h; cases h
theorem step_begins {r : Rm} {d : D} {x y : Str} (e : parseD d = some (.begins x y)) : stepO r [] d = none := by
  unfold stepO
  rw [e]
  rfl
theorem step_ref {r : Rm} (I : Inv r) {d : D} {dd : Dd} (hn : nameOk dd.name = true) (e : parseD d = some (prOf (rowOf dd))) (h : refB r dd = true) : stepO r [] d = none := by
  unfold stepO
  rw [e]
  show (match doW r (prOf (rowOf dd)) with | .did l r' => some (r', l) | .no _ => none) = none
  obtain ⟨c, hc⟩ := do_ref I hn h
  rw [doW_row, hc]
theorem step_deed {r : Rm} (I : Inv r) {d : D} {dd : Dd} (hn : nameOk dd.name = true) (e : parseD d = some (prOf (rowOf dd))) (h : refB r dd = false) : ∃ due r', stepO r [] d = some (r', due) ∧ Rel r' due (logR (preR r dd) (rowOf dd)) := by
  refine ⟨_, _, ?_, meas (preR r dd), Nat.le_refl _, rfl⟩
  unfold stepO
  rw [e]
  show (match doW r (prOf (rowOf dd)) with | .did l r' => some (r', l) | .no _ => none) = _
  rw [doW_row, do_done I hn h]
  rfl
/-! expressions that touch nothing -/
def PureE (te : DE) (δ : DS) (d : D) : Prop := ∀ (M : Mem) (Q : QD) (X : XD), Q d M → te δ M Q X
def PureA (ta : DA) (δ : DS) (ds : List D) : Prop := ∀ (M : Mem) (Q : List D → Mem → Prop) (X : XD), Q ds M → ta δ M Q X
theorem pure_c {δ : DS} (d : D) : PureE (dC d) δ d := fun _ _ _ h => h
theorem pure_v {δ : DS} {i : Nat} {d : D} (e : slot δ i = some d) : PureE (dVar i) δ d := fun M Q X h => by
  show el (slot δ i) _
  rw [e]
  exact h
theorem pure_nil {δ : DS} : PureA dNil δ [] := fun _ _ _ h => h
theorem pure_cons {δ : DS} {te : DE} {ta : DA} {d : D} {ds : List D} (h : PureE te δ d) (k : PureA ta δ ds) : PureA (dCons te ta) δ (d :: ds) := fun M Q X q => h M _ X (k M _ X q)
theorem pure_tup {δ : DS} {ta : DA} {ds : List D} (h : PureA ta δ ds) (f : few 99 ds = True) : PureE (dTup ta) δ (.tup ds) := fun M Q X q => h M _ X ⟨f ▸ trivial, q⟩
theorem pure_lst {δ : DS} {ta : DA} {ds : List D} (h : PureA ta δ ds) (f : few 99 ds = True) : PureE (dLst ta) δ (.lst ds) := fun M Q X q => h M _ X ⟨f ▸ trivial, q⟩
theorem pure_addS {δ : DS} {ta tb : DE} {a b : Str} (h : PureE ta δ (.str a)) (k : PureE tb δ (.str b)) (f : a.length + b.length ≤ sizeLine) : PureE (dOp oAdd ta tb) δ (.str (a ++ b)) := fun M Q X q => h M _ X (k M _ X ⟨f, q⟩)
theorem pure_addL {δ : DS} {ta tb : DE} {a b : List D} (h : PureE ta δ (.lst a)) (k : PureE tb δ (.lst b)) (f : a.length + b.length ≤ sizeLine) : PureE (dOp oAdd ta tb) δ (.lst (a ++ b)) := fun M Q X q => h M _ X (k M _ X ⟨f, q⟩)
/-- things that touch nothing, and {} behind them -/
def DicA (ta : DA) (δ : DS) (ds : List D) : Prop := ∀ (M : Mem) (Q : List D → Mem → Prop) (X : XD), (∀ p, M p = none → Q (ds ++ [.obj p]) (M.set p (.dic []))) → ta δ M Q X
theorem dicA_nil {δ : DS} : DicA (dCons dDic0M dNil) δ [] := fun _ _ _ h p hp => h p hp
theorem dicA_cons {δ : DS} {te : DE} {ta : DA} {d : D} {ds : List D} (h : PureE te δ d) (k : DicA ta δ ds) : DicA (dCons te ta) δ (d :: ds) := fun M Q X q => h M _ X (k M _ X fun p hp => q p hp)
theorem set_pure {i : Nat} {te : DE} {u : DSt} {E : DEnds} {δ : DS} {M : Mem} {d : D} (hp : PureE te δ d) (h : u E (δ.set i (some d)) M) : dSeq (dSet i te) u E δ M := hp M _ _ h
theorem set_add {i : Nat} {te : DE} {u : DSt} {E : DEnds} {δ : DS} {M : Mem} {L A : List D} (hv : slot δ i = some (.lst L)) (hp : PureE te δ (.lst A)) (hs : L.length + A.length ≤ sizeLine) (h : u E (δ.set i (some (.lst (L ++ A)))) M) : dSeq (dSet i (dOp oAdd (dVar i) te)) u E δ M := by
  show el (slot δ i) fun x => te δ M (fun y M2 => oAdd x y M2 fun d M1 => u E (δ.set i (some d)) M1) E.xc
  rw [hv]
  exact hp M _ _ ⟨hs, h⟩
theorem set_addD {i : Nat} {ta : DA} {u : DSt} {E : DEnds} {δ : DS} {M : Mem} {L A : List D} (hv : slot δ i = some (.lst L)) (hp : DicA ta δ A) (hf : ∀ p, few 99 (A ++ [.obj p]) = True) (hs : ∀ p, L.length + (A ++ [D.obj p]).length ≤ sizeLine) (h : ∀ p, M p = none → u E (δ.set i (some (.lst (L ++ (A ++ [.obj p]))))) (M.set p (.dic []))) : dSeq (dSet i (dOp oAdd (dVar i) (dLst ta))) u E δ M := by
  show el (slot δ i) fun x => dLst ta δ M (fun y M2 => oAdd x y M2 fun d M1 => u E (δ.set i (some d)) M1) E.xc
  rw [hv]
  exact hp M _ _ fun p hp => ⟨hf p ▸ trivial, hs p, h p hp⟩
/-! the names in rows -/
def rowNm : Rw → Str
  | .came z _ => z
  | .begins z _ => z
  | .left z => z
  | .asked z => z
  | .eased z => z
def RowsOk (l : List Rw) : Prop := ∀ x ∈ l, nameOk (rowNm x) = true
theorem RowsOk.app {l : List Rw} (h : RowsOk l) {x : Rw} (hx : nameOk (rowNm x) = true) : RowsOk (l ++ [x]) := fun y hy => by
  rcases List.mem_append.mp hy with e | e
  · exact h y e
  · rw [List.mem_singleton.mp e]; exact hx
theorem begun_ok {r r1 : Rm} {p : Str × Bool} (I : Inv r) (h : begun r = some (p, r1)) : nameOk p.1 = true := by
  cases ha : r.asking with
  | some z =>
    obtain ⟨_, rfl, _⟩ := begun_asked ha h
    exact I.ok z (List.mem_append.mpr (.inl (List.mem_append.mpr (.inl (I.ask z ha)))))
  | none =>
    obtain ⟨hal, k, w, h1, h2, rfl, _⟩ := begun_plain ha h
    exact I.ok w.name (List.mem_append.mpr (.inr (List.mem_map.mpr ⟨w, List.mem_of_getElem? h2, rfl⟩)))
theorem rowOf_nm (d : Dd) : rowNm (rowOf d) = d.name := by
  obtain ⟨k, z, b⟩ := d
  cases k <;> rfl
theorem name_len {z : Str} (h : nameOk z = true) : z.length ≤ 12 := (nameOk_good h).2.2

local macro_rules | `(tactic| walk_at "dl") => `(tactic| try simp -implicitDefEqProofs only [DL.dNext, DL.dSeq, DL.dExpr, DL.dRet, DL.dIfS, DL.dSet, DL.dCont, DL.dRaise, DL.dFor, DL.dgName, DL.dgPair, DL.dTry, DL.dFn, DL.dMth, DL.dMk, DL.dFld, DL.dFldS, DL.dPut, DL.dVar, DL.slot, DL.dC, DL.dOp, DL.dUn, DL.oSub, DL.oMul, DL.oDiv, DL.oMod, DL.oPow, DL.oLt, DL.oLe, DL.oGt, DL.oGe, DL.oEq, DL.oNe, DL.oIn, DL.oNotIn, DL.dB, DL.dIsN, DL.dChain, DL.dAnd, DL.dOr, DL.dNot, DL.dAndV, DL.dOrV, DL.dNotV, DL.dIf, DL.dNil, DL.dCons, DL.few, DL.dLst, DL.dTup, DL.dLstM, DL.dFrz, DL.dPairs, DL.dDisp, DL.dDic0, DL.dSl, DL.dNoPart, DL.dCall, DL.dMet0L, DL.dMet, DL.dItems, DL.dRange1, DL.dEnum, DL.dLcM, DL.dwipe, DL.startD, DL.dNever, DL.el_some, DL.elL_lst, DL.elD_dic, DL.elI_ins, DL.res_non, DL.res_bl, DL.res_int, DL.res_str, DL.res_lst, DL.res_tupE, DL.res_dic, DL.res_scr, DL.res_ty, DL.oAdd_eq, DL.addR_int, DL.addR_str, DL.addR_lst, DL.addR_tup, DL.oAddM_eq, DL.addMR_lst, DL.oInt_eq, DL.intR_int, DL.oInt0_eq, DL.int0R_int, DL.oNeg_eq, DL.negR_int, DL.oEqN_eq, DL.eqR_some, DL.eqR_none, DL.eqS_non_non, DL.eqS_non_int, DL.eqS_non_bl, DL.eqS_non_str, DL.eqS_non_lst, DL.eqS_non_tup, DL.eqS_int_non, DL.eqS_int_int, DL.eqS_int_bl, DL.eqS_int_str, DL.eqS_int_lst, DL.eqS_int_tup, DL.eqS_bl_non, DL.eqS_bl_int, DL.eqS_bl_bl, DL.eqS_bl_str, DL.eqS_bl_lst, DL.eqS_bl_tup, DL.eqS_str_non, DL.eqS_str_int, DL.eqS_str_bl, DL.eqS_str_str, DL.eqS_str_lst, DL.eqS_str_tup, DL.eqS_lst_non, DL.eqS_lst_int, DL.eqS_lst_bl, DL.eqS_lst_str, DL.eqS_lst_lst, DL.eqS_lst_tup, DL.eqS_tup_non, DL.eqS_tup_int, DL.eqS_tup_bl, DL.eqS_tup_str, DL.eqS_tup_lst, DL.eqS_tup_tup, DL.eqS_obj_non, DL.eqS_non_obj, DL.eqS_obj_int, DL.eqS_int_obj, DL.eqS_obj_bl, DL.eqS_bl_obj, DL.eqS_obj_str, DL.eqS_str_obj, DL.eqS_obj_lst, DL.eqS_lst_obj, DL.eqS_obj_tup, DL.eqS_tup_obj, DL.eqS_obj_obj, DL.oInN_eq, DL.inR_lst, DL.inR_tup, DL.inR_str, DL.flatD_non, DL.flatD_bl, DL.flatD_int, DL.flatD_str, DL.asB_bl, DL.isN_non, DL.isN_bl, DL.isN_int, DL.isN_str, DL.isN_lst, DL.isN_tup, DL.isN_dic, DL.isN_scr, DL.isN_ty, DL.isN_obj, DL.frz_non, DL.frz_bl, DL.frz_int, DL.frz_str, DL.frz_lst, DL.frz_tup, DL.frz_dic, DL.frz_scr, DL.frz_ty, DL.oIx_eq, DL.ixR_lst, DL.ixR_tup, DL.ixR_scr, DL.ixR_str, DL.ixR_dic, DL.nth_0, DL.nth_1, DL.nth_2, DL.nth_3, DL.oSl_eq, DL.slR_lst, DL.slR_tup, DL.slR_str, DL.dPart_eq, DL.partR_int, DL.on1_cons, DL.on2_cons, DL.lenD_lst, DL.lenD_tup, DL.lenD_scr, DL.lenD_str, DL.intD_int, DL.intD_bl, DL.strD_int, DL.int2_int, DL.listM_lst, DL.listF_lst, DL.listM_tup, DL.listF_tup, DL.dictM_dic, DL.isiD_ty, DL.oAppend_obj, DL.oInsert_obj, DL.oPop_obj, DL.oPopAt_obj, DL.isLst_eq, DL.isLstR_lst, DL.isStr_str, DL.oSplit_str, DL.oJoin_str, DL.itemsOf_lst, DL.itemsOf_tup, DL.itemsOf_str, DL.rng1_int, DL.enumOf_lst, DL.two_tup, DL.insIs_obj, DL.getFld_obj, DL.setFld_obj, DL.putDic_obj, DL.isB_str_non, DL.isB_str_bl, DL.isB_str_int, DL.isB_str_str, DL.isB_str_lst, DL.isB_str_tup, DL.isB_str_dic, DL.isB_int_non, DL.isB_int_bl, DL.isB_int_int, DL.isB_int_str, DL.isB_int_lst, DL.isB_int_tup, DL.isB_int_dic, DL.isB_bool_non, DL.isB_bool_bl, DL.isB_bool_int, DL.isB_bool_str, DL.isB_bool_lst, DL.isB_bool_tup, DL.isB_bool_dic, DL.isB_list_non, DL.isB_list_bl, DL.isB_list_int, DL.isB_list_str, DL.isB_list_lst, DL.isB_list_tup, DL.isB_list_dic, DL.isB_tuple_non, DL.isB_tuple_bl, DL.isB_tuple_int, DL.isB_tuple_str, DL.isB_tuple_lst, DL.isB_tuple_tup, DL.isB_tuple_dic, Bool.cond_true, Bool.cond_false, L2.CDiv, Int.reduceLT, Int.reduceLE, true_and, and_true, cond_true, cond_false, List.map_cons, List.map_nil, List.set_cons_zero, List.set_cons_succ, List.set_nil, DL.cpow_109, DL.pow_109, DL.frz_set_lst, DL.frz_set_dic, Bool.not_true, Bool.not_false, DL.itemsOf_obj, DL.enumOf_obj, DL.all_still, okD_non, okD_bl, okD_int, okD_str, okD_lst, okD_tup, okD_dic, res_set_lst, Mem.set_same, Mem.set_set, lk_seats, lk_patience, lk_reading, lk_alone, lk_asking, lk_waiting, lk_rows, no_is_inside, no_is_waiting, no_look, no_come, no_leave, no_ask, no_ease, no_settled, no_begun, no_readers, no_writer, no_asker, no_line, no_passed, no_journal, dp_reading, dp_reading0, dp_reading1, dp_alone, dp_alone0, dp_asking, dp_asking0, dp_waiting, dp_rows, few_flds, eNames, isN_optS, res_optS, optS_some, optS_none, Option.isNone_none, Option.isNone_some, ln_queue, ln_reading, ln_alone, ln_asked, dn_queue, dn_reading, dn_reading0, dn_reading1, dn_aloneO, dn_alone, dn_alone0, dn_asked, dn_asked0, few_eN, nod_eN, eqS_optS2])
/-! ### _law_cell_at(_law_script, _law_k): 0 _law_script, 1 _law_k -/
def t_l_cell_at_1  : DSt :=
  (dRet (dC (.int 0)))
def t_l_cell_at  : DSt :=
  (dSeq (dIfS (dB (dOp oLt (dVar 1) (dCall (on1 lenD) (dCons (dVar 0) dNil)))) (dRet (dOp oIx (dVar 0) (dVar 1))) dNext)
  t_l_cell_at_1)
local macro_rules | `(tactic| walk_at "un") => `(tactic| simp only [t_l_cell_at_1, t_l_cell_at])
def m_l_cell_at : FDm := fun ds M Q _ => match ds with
  | [.scr ns, .int k] => 0 ≤ k ∧ Q (.int (cellAt ns k)) M
  | _ => False
theorem len_l_cell_at : ∀ ds M Q X, m_l_cell_at ds M Q X → ds.length = 2 := fun ds M Q X h => by
  unfold m_l_cell_at at h
  split at h <;> first | rfl | exact h.elim
theorem read_l_cell_at : ∀ ds M Q X, m_l_cell_at ds M Q X → t_l_cell_at (bodyE Q X) (startD 2 ds) M := by
  intro ds M Q X h
  unfold m_l_cell_at at h
  split at h
  · rename_i ns k
    obtain ⟨h0, h⟩ := h
    walk_at "un"
    walk_at "dl"
    unfold cellAt at h
    refine cond_dec (fun hx => ?_) fun hx => ?_
    · have hk : k.toNat < ns.length := by omega
      rw [nth_toNat _ h0, List.getElem?_eq_getElem hk]
      rw [List.getElem?_eq_getElem hk] at h
      exact retD_of h
    · have hk : ns.length ≤ k.toNat := by omega
      rw [List.getElem?_eq_none hk] at h
      exact retD_of h
  · exact h.elim
-- SIMP m_l_cell_at Int.reduceLE

local macro_rules | `(tactic| walk_at "dl") => `(tactic| try simp -implicitDefEqProofs only [DL.dNext, DL.dSeq, DL.dExpr, DL.dRet, DL.dIfS, DL.dSet, DL.dCont, DL.dRaise, DL.dFor, DL.dgName, DL.dgPair, DL.dTry, DL.dFn, DL.dMth, DL.dMk, DL.dFld, DL.dFldS, DL.dPut, DL.dVar, DL.slot, DL.dC, DL.dOp, DL.dUn, DL.oSub, DL.oMul, DL.oDiv, DL.oMod, DL.oPow, DL.oLt, DL.oLe, DL.oGt, DL.oGe, DL.oEq, DL.oNe, DL.oIn, DL.oNotIn, DL.dB, DL.dIsN, DL.dChain, DL.dAnd, DL.dOr, DL.dNot, DL.dAndV, DL.dOrV, DL.dNotV, DL.dIf, DL.dNil, DL.dCons, DL.few, DL.dLst, DL.dTup, DL.dLstM, DL.dFrz, DL.dPairs, DL.dDisp, DL.dDic0, DL.dSl, DL.dNoPart, DL.dCall, DL.dMet0L, DL.dMet, DL.dItems, DL.dRange1, DL.dEnum, DL.dLcM, DL.dwipe, DL.startD, DL.dNever, DL.el_some, DL.elL_lst, DL.elD_dic, DL.elI_ins, DL.res_non, DL.res_bl, DL.res_int, DL.res_str, DL.res_lst, DL.res_tupE, DL.res_dic, DL.res_scr, DL.res_ty, DL.oAdd_eq, DL.addR_int, DL.addR_str, DL.addR_lst, DL.addR_tup, DL.oAddM_eq, DL.addMR_lst, DL.oInt_eq, DL.intR_int, DL.oInt0_eq, DL.int0R_int, DL.oNeg_eq, DL.negR_int, DL.oEqN_eq, DL.eqR_some, DL.eqR_none, DL.eqS_non_non, DL.eqS_non_int, DL.eqS_non_bl, DL.eqS_non_str, DL.eqS_non_lst, DL.eqS_non_tup, DL.eqS_int_non, DL.eqS_int_int, DL.eqS_int_bl, DL.eqS_int_str, DL.eqS_int_lst, DL.eqS_int_tup, DL.eqS_bl_non, DL.eqS_bl_int, DL.eqS_bl_bl, DL.eqS_bl_str, DL.eqS_bl_lst, DL.eqS_bl_tup, DL.eqS_str_non, DL.eqS_str_int, DL.eqS_str_bl, DL.eqS_str_str, DL.eqS_str_lst, DL.eqS_str_tup, DL.eqS_lst_non, DL.eqS_lst_int, DL.eqS_lst_bl, DL.eqS_lst_str, DL.eqS_lst_lst, DL.eqS_lst_tup, DL.eqS_tup_non, DL.eqS_tup_int, DL.eqS_tup_bl, DL.eqS_tup_str, DL.eqS_tup_lst, DL.eqS_tup_tup, DL.eqS_obj_non, DL.eqS_non_obj, DL.eqS_obj_int, DL.eqS_int_obj, DL.eqS_obj_bl, DL.eqS_bl_obj, DL.eqS_obj_str, DL.eqS_str_obj, DL.eqS_obj_lst, DL.eqS_lst_obj, DL.eqS_obj_tup, DL.eqS_tup_obj, DL.eqS_obj_obj, DL.oInN_eq, DL.inR_lst, DL.inR_tup, DL.inR_str, DL.flatD_non, DL.flatD_bl, DL.flatD_int, DL.flatD_str, DL.asB_bl, DL.isN_non, DL.isN_bl, DL.isN_int, DL.isN_str, DL.isN_lst, DL.isN_tup, DL.isN_dic, DL.isN_scr, DL.isN_ty, DL.isN_obj, DL.frz_non, DL.frz_bl, DL.frz_int, DL.frz_str, DL.frz_lst, DL.frz_tup, DL.frz_dic, DL.frz_scr, DL.frz_ty, DL.oIx_eq, DL.ixR_lst, DL.ixR_tup, DL.ixR_scr, DL.ixR_str, DL.ixR_dic, DL.nth_0, DL.nth_1, DL.nth_2, DL.nth_3, DL.oSl_eq, DL.slR_lst, DL.slR_tup, DL.slR_str, DL.dPart_eq, DL.partR_int, DL.on1_cons, DL.on2_cons, DL.lenD_lst, DL.lenD_tup, DL.lenD_scr, DL.lenD_str, DL.intD_int, DL.intD_bl, DL.strD_int, DL.int2_int, DL.listM_lst, DL.listF_lst, DL.listM_tup, DL.listF_tup, DL.dictM_dic, DL.isiD_ty, DL.oAppend_obj, DL.oInsert_obj, DL.oPop_obj, DL.oPopAt_obj, DL.isLst_eq, DL.isLstR_lst, DL.isStr_str, DL.oSplit_str, DL.oJoin_str, DL.itemsOf_lst, DL.itemsOf_tup, DL.itemsOf_str, DL.rng1_int, DL.enumOf_lst, DL.two_tup, DL.insIs_obj, DL.getFld_obj, DL.setFld_obj, DL.putDic_obj, DL.isB_str_non, DL.isB_str_bl, DL.isB_str_int, DL.isB_str_str, DL.isB_str_lst, DL.isB_str_tup, DL.isB_str_dic, DL.isB_int_non, DL.isB_int_bl, DL.isB_int_int, DL.isB_int_str, DL.isB_int_lst, DL.isB_int_tup, DL.isB_int_dic, DL.isB_bool_non, DL.isB_bool_bl, DL.isB_bool_int, DL.isB_bool_str, DL.isB_bool_lst, DL.isB_bool_tup, DL.isB_bool_dic, DL.isB_list_non, DL.isB_list_bl, DL.isB_list_int, DL.isB_list_str, DL.isB_list_lst, DL.isB_list_tup, DL.isB_list_dic, DL.isB_tuple_non, DL.isB_tuple_bl, DL.isB_tuple_int, DL.isB_tuple_str, DL.isB_tuple_lst, DL.isB_tuple_tup, DL.isB_tuple_dic, Bool.cond_true, Bool.cond_false, L2.CDiv, Int.reduceLT, Int.reduceLE, true_and, and_true, cond_true, cond_false, List.map_cons, List.map_nil, List.set_cons_zero, List.set_cons_succ, List.set_nil, DL.cpow_109, DL.pow_109, DL.frz_set_lst, DL.frz_set_dic, Bool.not_true, Bool.not_false, DL.itemsOf_obj, DL.enumOf_obj, DL.all_still, okD_non, okD_bl, okD_int, okD_str, okD_lst, okD_tup, okD_dic, res_set_lst, Mem.set_same, Mem.set_set, lk_seats, lk_patience, lk_reading, lk_alone, lk_asking, lk_waiting, lk_rows, no_is_inside, no_is_waiting, no_look, no_come, no_leave, no_ask, no_ease, no_settled, no_begun, no_readers, no_writer, no_asker, no_line, no_passed, no_journal, dp_reading, dp_reading0, dp_reading1, dp_alone, dp_alone0, dp_asking, dp_asking0, dp_waiting, dp_rows, few_flds, eNames, isN_optS, res_optS, optS_some, optS_none, Option.isNone_none, Option.isNone_some, ln_queue, ln_reading, ln_alone, ln_asked, dn_queue, dn_reading, dn_reading0, dn_reading1, dn_aloneO, dn_alone, dn_alone0, dn_asked, dn_asked0, few_eN, nod_eN, eqS_optS2, m_l_cell_at, Int.reduceLE])
/-! ### _law_number_by(_law_cell, _law_least): 0 _law_cell, 1 _law_least, 2 _law_way -/
def t_l_number_by_5  : DSt :=
  (dRet (dOp oAdd (dVar 1) (dOp oMod (dOp oDiv (dVar 0) (dC (.int 8))) (dOp oIx (dLst (dCons (dC (.int 60)) (dCons (dC (.int 300)) dNil))) (dOp oSub (dVar 2) (dC (.int 6)))))))
def t_l_number_by_4  : DSt :=
  (dSeq (dIfS (dB (dOp oEq (dVar 2) (dC (.int 5)))) (dRet (dOp oAdd (dVar 1) (dOp oMod (dOp oDiv (dVar 0) (dC (.int 8))) (dOp oSub (dOp oAdd (dOp oPow (dC (.int 10)) (dC (.int 9))) (dC (.int 1))) (dVar 1))))) dNext)
  t_l_number_by_5)
def t_l_number_by_3  : DSt :=
  (dSeq (dIfS (dB (dOp oEq (dVar 2) (dC (.int 4)))) (dRet (dOp oPow (dC (.int 10)) (dC (.int 9)))) dNext)
  t_l_number_by_4)
def t_l_number_by_2  : DSt :=
  (dSeq (dIfS (dB (dOp oEq (dVar 2) (dC (.int 3)))) (dRet (dOp oAdd (dVar 1) (dOp oMod (dOp oDiv (dVar 0) (dC (.int 8))) (dC (.int 9))))) dNext)
  t_l_number_by_3)
def t_l_number_by_1  : DSt :=
  (dSeq (dIfS (dB (dOp oLt (dVar 2) (dC (.int 3)))) (dRet (dOp oAdd (dVar 1) (dVar 2))) dNext)
  t_l_number_by_2)
def t_l_number_by  : DSt :=
  (dSeq (dSet 2 (dOp oMod (dVar 0) (dC (.int 8))))
  t_l_number_by_1)
local macro_rules | `(tactic| walk_at "un") => `(tactic| simp only [t_l_number_by_5, t_l_number_by_4, t_l_number_by_3, t_l_number_by_2, t_l_number_by_1, t_l_number_by])
def numberBy (c l : Int) : Int :=
  if c % 8 < 3 then l + c % 8 else if c % 8 = 3 then l + c / 8 % 9 else if c % 8 = 4 then 1000000000 else if c % 8 = 5 then l + c / 8 % (1000000001 - l) else if c % 8 = 6 then l + c / 8 % 60 else l + c / 8 % 300
theorem numberBy_lo {c l : Int} (h0 : 0 ≤ l) (h1 : l ≤ 1) : l ≤ numberBy c l := by
  have := Int.emod_nonneg (c / 8) (show (1000000001 - l) ≠ 0 by omega)
  unfold numberBy
  repeat' split
  all_goals omega
theorem numberBy_hi {c l : Int} (h0 : 0 ≤ l) (h1 : l ≤ 1) : numberBy c l ≤ 1000000000 := by
  have := Int.emod_lt_of_pos (c / 8) (show 0 < (1000000001 - l) by omega)
  unfold numberBy
  repeat' split
  all_goals omega
def m_l_number_by : FDm := fun ds M Q _ => match ds with
  | [.int c, .int l] => 0 ≤ l ∧ l ≤ 1 ∧ Q (.int (numberBy c l)) M
  | _ => False
theorem len_l_number_by : ∀ ds M Q X, m_l_number_by ds M Q X → ds.length = 2 := fun ds M Q X h => by
  unfold m_l_number_by at h
  split at h <;> first | rfl | exact h.elim
theorem read_l_number_by : ∀ ds M Q X, m_l_number_by ds M Q X → t_l_number_by (bodyE Q X) (startD 3 ds) M := by
  intro ds M Q X h
  unfold m_l_number_by at h
  split at h
  rotate_left
  · exact h.elim
  rename_i c l
  obtain ⟨h0, h1, h⟩ := h
  walk_at "un"
  walk_at "dl"
  unfold numberBy at h
  have m8 := Int.emod_nonneg c (show (8 : Int) ≠ 0 by decide)
  have m8' := Int.emod_lt_of_pos c (show (0 : Int) < 8 by decide)
  refine cond_dec (fun hx => ?_) fun hx => ?_
  · rw [if_pos hx] at h
    exact retD_of h
  rw [if_neg hx] at h
  refine cond_dec (fun hx => ?_) fun hx => ?_
  · rw [if_pos hx] at h
    exact retD_of h
  rw [if_neg hx] at h
  refine cond_dec (fun hx => ?_) fun hx => ?_
  · rw [if_pos hx] at h
    exact retD_of h
  rw [if_neg hx] at h
  refine cond_dec (fun hx => ?_) fun hx => ?_
  · rw [if_pos hx] at h
    exact ⟨by omega, retD_of h⟩
  rw [if_neg hx] at h
  by_cases h6 : c % 8 = 6
  · rw [if_pos h6] at h
    rw [h6]
    exact ⟨(by decide : (0 : Int) < 60), retD_of h⟩
  · rw [if_neg h6] at h
    have h7 : c % 8 = 7 := by omega
    rw [h7]
    exact ⟨(by decide : (0 : Int) < 300), retD_of h⟩
-- SIMP m_l_number_by

local macro_rules | `(tactic| walk_at "dl") => `(tactic| try simp -implicitDefEqProofs only [DL.dNext, DL.dSeq, DL.dExpr, DL.dRet, DL.dIfS, DL.dSet, DL.dCont, DL.dRaise, DL.dFor, DL.dgName, DL.dgPair, DL.dTry, DL.dFn, DL.dMth, DL.dMk, DL.dFld, DL.dFldS, DL.dPut, DL.dVar, DL.slot, DL.dC, DL.dOp, DL.dUn, DL.oSub, DL.oMul, DL.oDiv, DL.oMod, DL.oPow, DL.oLt, DL.oLe, DL.oGt, DL.oGe, DL.oEq, DL.oNe, DL.oIn, DL.oNotIn, DL.dB, DL.dIsN, DL.dChain, DL.dAnd, DL.dOr, DL.dNot, DL.dAndV, DL.dOrV, DL.dNotV, DL.dIf, DL.dNil, DL.dCons, DL.few, DL.dLst, DL.dTup, DL.dLstM, DL.dFrz, DL.dPairs, DL.dDisp, DL.dDic0, DL.dSl, DL.dNoPart, DL.dCall, DL.dMet0L, DL.dMet, DL.dItems, DL.dRange1, DL.dEnum, DL.dLcM, DL.dwipe, DL.startD, DL.dNever, DL.el_some, DL.elL_lst, DL.elD_dic, DL.elI_ins, DL.res_non, DL.res_bl, DL.res_int, DL.res_str, DL.res_lst, DL.res_tupE, DL.res_dic, DL.res_scr, DL.res_ty, DL.oAdd_eq, DL.addR_int, DL.addR_str, DL.addR_lst, DL.addR_tup, DL.oAddM_eq, DL.addMR_lst, DL.oInt_eq, DL.intR_int, DL.oInt0_eq, DL.int0R_int, DL.oNeg_eq, DL.negR_int, DL.oEqN_eq, DL.eqR_some, DL.eqR_none, DL.eqS_non_non, DL.eqS_non_int, DL.eqS_non_bl, DL.eqS_non_str, DL.eqS_non_lst, DL.eqS_non_tup, DL.eqS_int_non, DL.eqS_int_int, DL.eqS_int_bl, DL.eqS_int_str, DL.eqS_int_lst, DL.eqS_int_tup, DL.eqS_bl_non, DL.eqS_bl_int, DL.eqS_bl_bl, DL.eqS_bl_str, DL.eqS_bl_lst, DL.eqS_bl_tup, DL.eqS_str_non, DL.eqS_str_int, DL.eqS_str_bl, DL.eqS_str_str, DL.eqS_str_lst, DL.eqS_str_tup, DL.eqS_lst_non, DL.eqS_lst_int, DL.eqS_lst_bl, DL.eqS_lst_str, DL.eqS_lst_lst, DL.eqS_lst_tup, DL.eqS_tup_non, DL.eqS_tup_int, DL.eqS_tup_bl, DL.eqS_tup_str, DL.eqS_tup_lst, DL.eqS_tup_tup, DL.eqS_obj_non, DL.eqS_non_obj, DL.eqS_obj_int, DL.eqS_int_obj, DL.eqS_obj_bl, DL.eqS_bl_obj, DL.eqS_obj_str, DL.eqS_str_obj, DL.eqS_obj_lst, DL.eqS_lst_obj, DL.eqS_obj_tup, DL.eqS_tup_obj, DL.eqS_obj_obj, DL.oInN_eq, DL.inR_lst, DL.inR_tup, DL.inR_str, DL.flatD_non, DL.flatD_bl, DL.flatD_int, DL.flatD_str, DL.asB_bl, DL.isN_non, DL.isN_bl, DL.isN_int, DL.isN_str, DL.isN_lst, DL.isN_tup, DL.isN_dic, DL.isN_scr, DL.isN_ty, DL.isN_obj, DL.frz_non, DL.frz_bl, DL.frz_int, DL.frz_str, DL.frz_lst, DL.frz_tup, DL.frz_dic, DL.frz_scr, DL.frz_ty, DL.oIx_eq, DL.ixR_lst, DL.ixR_tup, DL.ixR_scr, DL.ixR_str, DL.ixR_dic, DL.nth_0, DL.nth_1, DL.nth_2, DL.nth_3, DL.oSl_eq, DL.slR_lst, DL.slR_tup, DL.slR_str, DL.dPart_eq, DL.partR_int, DL.on1_cons, DL.on2_cons, DL.lenD_lst, DL.lenD_tup, DL.lenD_scr, DL.lenD_str, DL.intD_int, DL.intD_bl, DL.strD_int, DL.int2_int, DL.listM_lst, DL.listF_lst, DL.listM_tup, DL.listF_tup, DL.dictM_dic, DL.isiD_ty, DL.oAppend_obj, DL.oInsert_obj, DL.oPop_obj, DL.oPopAt_obj, DL.isLst_eq, DL.isLstR_lst, DL.isStr_str, DL.oSplit_str, DL.oJoin_str, DL.itemsOf_lst, DL.itemsOf_tup, DL.itemsOf_str, DL.rng1_int, DL.enumOf_lst, DL.two_tup, DL.insIs_obj, DL.getFld_obj, DL.setFld_obj, DL.putDic_obj, DL.isB_str_non, DL.isB_str_bl, DL.isB_str_int, DL.isB_str_str, DL.isB_str_lst, DL.isB_str_tup, DL.isB_str_dic, DL.isB_int_non, DL.isB_int_bl, DL.isB_int_int, DL.isB_int_str, DL.isB_int_lst, DL.isB_int_tup, DL.isB_int_dic, DL.isB_bool_non, DL.isB_bool_bl, DL.isB_bool_int, DL.isB_bool_str, DL.isB_bool_lst, DL.isB_bool_tup, DL.isB_bool_dic, DL.isB_list_non, DL.isB_list_bl, DL.isB_list_int, DL.isB_list_str, DL.isB_list_lst, DL.isB_list_tup, DL.isB_list_dic, DL.isB_tuple_non, DL.isB_tuple_bl, DL.isB_tuple_int, DL.isB_tuple_str, DL.isB_tuple_lst, DL.isB_tuple_tup, DL.isB_tuple_dic, Bool.cond_true, Bool.cond_false, L2.CDiv, Int.reduceLT, Int.reduceLE, true_and, and_true, cond_true, cond_false, List.map_cons, List.map_nil, List.set_cons_zero, List.set_cons_succ, List.set_nil, DL.cpow_109, DL.pow_109, DL.frz_set_lst, DL.frz_set_dic, Bool.not_true, Bool.not_false, DL.itemsOf_obj, DL.enumOf_obj, DL.all_still, okD_non, okD_bl, okD_int, okD_str, okD_lst, okD_tup, okD_dic, res_set_lst, Mem.set_same, Mem.set_set, lk_seats, lk_patience, lk_reading, lk_alone, lk_asking, lk_waiting, lk_rows, no_is_inside, no_is_waiting, no_look, no_come, no_leave, no_ask, no_ease, no_settled, no_begun, no_readers, no_writer, no_asker, no_line, no_passed, no_journal, dp_reading, dp_reading0, dp_reading1, dp_alone, dp_alone0, dp_asking, dp_asking0, dp_waiting, dp_rows, few_flds, eNames, isN_optS, res_optS, optS_some, optS_none, Option.isNone_none, Option.isNone_some, ln_queue, ln_reading, ln_alone, ln_asked, dn_queue, dn_reading, dn_reading0, dn_reading1, dn_aloneO, dn_alone, dn_alone0, dn_asked, dn_asked0, few_eN, nod_eN, eqS_optS2, m_l_cell_at, Int.reduceLE, m_l_number_by])
/-! ### _law_seats(_law_script): 0 _law_script, 1 _law_cell -/
def t_l_seats_2  : DSt :=
  (dRet (dFn m_l_number_by (dCons (dVar 1) (dCons (dC (.int 1)) dNil))))
def t_l_seats_1  : DSt :=
  (dSeq (dIfS (dAnd (dB (dOp oIn (dOp oMod (dFn m_l_cell_at (dCons (dVar 0) (dCons (dC (.int 4)) dNil))) (dC (.int 8))) (dLst (dCons (dC (.int 1)) (dCons (dC (.int 3)) dNil))))) (dB (dOp oEq (dOp oMod (dVar 1) (dC (.int 2))) (dC (.int 1))))) (dRet (dOp oAdd (dC (.int 1)) (dOp oMod (dOp oDiv (dVar 1) (dC (.int 2))) (dC (.int 80))))) dNext)
  t_l_seats_2)
def t_l_seats  : DSt :=
  (dSeq (dSet 1 (dFn m_l_cell_at (dCons (dVar 0) (dCons (dC (.int 0)) dNil))))
  t_l_seats_1)
local macro_rules | `(tactic| walk_at "un") => `(tactic| simp only [t_l_seats_2, t_l_seats_1, t_l_seats])
def m_l_seats : FDm := fun ds M Q _ => match ds with
  | [.scr _] => ∀ s : Int, 1 ≤ s → s ≤ 1000000000 → Q (.int s) M
  | _ => False
theorem len_l_seats : ∀ ds M Q X, m_l_seats ds M Q X → ds.length = 1 := fun ds M Q X h => by
  unfold m_l_seats at h
  split at h <;> first | rfl | exact h.elim
theorem read_l_seats : ∀ ds M Q X, m_l_seats ds M Q X → t_l_seats (bodyE Q X) (startD 2 ds) M := by
  intro ds M Q X h
  unfold m_l_seats at h
  split at h
  rotate_left
  · exact h.elim
  rename_i ns
  unfold t_l_seats t_l_seats_1
  walk_at "dl"
  have h1 := numberBy_lo (c := cellAt ns 0) (l := 1) (by decide) (by decide)
  have h2 := numberBy_hi (c := cellAt ns 0) (l := 1) (by decide) (by decide)
  have g1 := Int.emod_nonneg (cellAt ns 0 / 2) (show (80 : Int) ≠ 0 by decide)
  have g2 := Int.emod_lt_of_pos (cellAt ns 0 / 2) (show (0 : Int) < 80 by decide)
  have rest : t_l_seats_2 (bodyE Q X) [some (.scr ns), some (.int (cellAt ns 0))] M := by
    unfold t_l_seats_2
    walk_at "dl"
    exact retD_of (h _ h1 h2)
  refine ⟨rfl, cond_of (fun _ => cond_dec (fun _ => ?_) fun _ => rest) fun _ => rest⟩
  exact retD_of (h _ (by omega) (by omega))
-- SIMP m_l_seats

local macro_rules | `(tactic| walk_at "dl") => `(tactic| try simp -implicitDefEqProofs only [DL.dNext, DL.dSeq, DL.dExpr, DL.dRet, DL.dIfS, DL.dSet, DL.dCont, DL.dRaise, DL.dFor, DL.dgName, DL.dgPair, DL.dTry, DL.dFn, DL.dMth, DL.dMk, DL.dFld, DL.dFldS, DL.dPut, DL.dVar, DL.slot, DL.dC, DL.dOp, DL.dUn, DL.oSub, DL.oMul, DL.oDiv, DL.oMod, DL.oPow, DL.oLt, DL.oLe, DL.oGt, DL.oGe, DL.oEq, DL.oNe, DL.oIn, DL.oNotIn, DL.dB, DL.dIsN, DL.dChain, DL.dAnd, DL.dOr, DL.dNot, DL.dAndV, DL.dOrV, DL.dNotV, DL.dIf, DL.dNil, DL.dCons, DL.few, DL.dLst, DL.dTup, DL.dLstM, DL.dFrz, DL.dPairs, DL.dDisp, DL.dDic0, DL.dSl, DL.dNoPart, DL.dCall, DL.dMet0L, DL.dMet, DL.dItems, DL.dRange1, DL.dEnum, DL.dLcM, DL.dwipe, DL.startD, DL.dNever, DL.el_some, DL.elL_lst, DL.elD_dic, DL.elI_ins, DL.res_non, DL.res_bl, DL.res_int, DL.res_str, DL.res_lst, DL.res_tupE, DL.res_dic, DL.res_scr, DL.res_ty, DL.oAdd_eq, DL.addR_int, DL.addR_str, DL.addR_lst, DL.addR_tup, DL.oAddM_eq, DL.addMR_lst, DL.oInt_eq, DL.intR_int, DL.oInt0_eq, DL.int0R_int, DL.oNeg_eq, DL.negR_int, DL.oEqN_eq, DL.eqR_some, DL.eqR_none, DL.eqS_non_non, DL.eqS_non_int, DL.eqS_non_bl, DL.eqS_non_str, DL.eqS_non_lst, DL.eqS_non_tup, DL.eqS_int_non, DL.eqS_int_int, DL.eqS_int_bl, DL.eqS_int_str, DL.eqS_int_lst, DL.eqS_int_tup, DL.eqS_bl_non, DL.eqS_bl_int, DL.eqS_bl_bl, DL.eqS_bl_str, DL.eqS_bl_lst, DL.eqS_bl_tup, DL.eqS_str_non, DL.eqS_str_int, DL.eqS_str_bl, DL.eqS_str_str, DL.eqS_str_lst, DL.eqS_str_tup, DL.eqS_lst_non, DL.eqS_lst_int, DL.eqS_lst_bl, DL.eqS_lst_str, DL.eqS_lst_lst, DL.eqS_lst_tup, DL.eqS_tup_non, DL.eqS_tup_int, DL.eqS_tup_bl, DL.eqS_tup_str, DL.eqS_tup_lst, DL.eqS_tup_tup, DL.eqS_obj_non, DL.eqS_non_obj, DL.eqS_obj_int, DL.eqS_int_obj, DL.eqS_obj_bl, DL.eqS_bl_obj, DL.eqS_obj_str, DL.eqS_str_obj, DL.eqS_obj_lst, DL.eqS_lst_obj, DL.eqS_obj_tup, DL.eqS_tup_obj, DL.eqS_obj_obj, DL.oInN_eq, DL.inR_lst, DL.inR_tup, DL.inR_str, DL.flatD_non, DL.flatD_bl, DL.flatD_int, DL.flatD_str, DL.asB_bl, DL.isN_non, DL.isN_bl, DL.isN_int, DL.isN_str, DL.isN_lst, DL.isN_tup, DL.isN_dic, DL.isN_scr, DL.isN_ty, DL.isN_obj, DL.frz_non, DL.frz_bl, DL.frz_int, DL.frz_str, DL.frz_lst, DL.frz_tup, DL.frz_dic, DL.frz_scr, DL.frz_ty, DL.oIx_eq, DL.ixR_lst, DL.ixR_tup, DL.ixR_scr, DL.ixR_str, DL.ixR_dic, DL.nth_0, DL.nth_1, DL.nth_2, DL.nth_3, DL.oSl_eq, DL.slR_lst, DL.slR_tup, DL.slR_str, DL.dPart_eq, DL.partR_int, DL.on1_cons, DL.on2_cons, DL.lenD_lst, DL.lenD_tup, DL.lenD_scr, DL.lenD_str, DL.intD_int, DL.intD_bl, DL.strD_int, DL.int2_int, DL.listM_lst, DL.listF_lst, DL.listM_tup, DL.listF_tup, DL.dictM_dic, DL.isiD_ty, DL.oAppend_obj, DL.oInsert_obj, DL.oPop_obj, DL.oPopAt_obj, DL.isLst_eq, DL.isLstR_lst, DL.isStr_str, DL.oSplit_str, DL.oJoin_str, DL.itemsOf_lst, DL.itemsOf_tup, DL.itemsOf_str, DL.rng1_int, DL.enumOf_lst, DL.two_tup, DL.insIs_obj, DL.getFld_obj, DL.setFld_obj, DL.putDic_obj, DL.isB_str_non, DL.isB_str_bl, DL.isB_str_int, DL.isB_str_str, DL.isB_str_lst, DL.isB_str_tup, DL.isB_str_dic, DL.isB_int_non, DL.isB_int_bl, DL.isB_int_int, DL.isB_int_str, DL.isB_int_lst, DL.isB_int_tup, DL.isB_int_dic, DL.isB_bool_non, DL.isB_bool_bl, DL.isB_bool_int, DL.isB_bool_str, DL.isB_bool_lst, DL.isB_bool_tup, DL.isB_bool_dic, DL.isB_list_non, DL.isB_list_bl, DL.isB_list_int, DL.isB_list_str, DL.isB_list_lst, DL.isB_list_tup, DL.isB_list_dic, DL.isB_tuple_non, DL.isB_tuple_bl, DL.isB_tuple_int, DL.isB_tuple_str, DL.isB_tuple_lst, DL.isB_tuple_tup, DL.isB_tuple_dic, Bool.cond_true, Bool.cond_false, L2.CDiv, Int.reduceLT, Int.reduceLE, true_and, and_true, cond_true, cond_false, List.map_cons, List.map_nil, List.set_cons_zero, List.set_cons_succ, List.set_nil, DL.cpow_109, DL.pow_109, DL.frz_set_lst, DL.frz_set_dic, Bool.not_true, Bool.not_false, DL.itemsOf_obj, DL.enumOf_obj, DL.all_still, okD_non, okD_bl, okD_int, okD_str, okD_lst, okD_tup, okD_dic, res_set_lst, Mem.set_same, Mem.set_set, lk_seats, lk_patience, lk_reading, lk_alone, lk_asking, lk_waiting, lk_rows, no_is_inside, no_is_waiting, no_look, no_come, no_leave, no_ask, no_ease, no_settled, no_begun, no_readers, no_writer, no_asker, no_line, no_passed, no_journal, dp_reading, dp_reading0, dp_reading1, dp_alone, dp_alone0, dp_asking, dp_asking0, dp_waiting, dp_rows, few_flds, eNames, isN_optS, res_optS, optS_some, optS_none, Option.isNone_none, Option.isNone_some, ln_queue, ln_reading, ln_alone, ln_asked, dn_queue, dn_reading, dn_reading0, dn_reading1, dn_aloneO, dn_alone, dn_alone0, dn_asked, dn_asked0, few_eN, nod_eN, eqS_optS2, m_l_cell_at, Int.reduceLE, m_l_number_by, m_l_seats])
/-! ### _law_patience(_law_script): 0 _law_script, 1 _law_cell -/
def t_l_patience_2  : DSt :=
  (dRet (dFn m_l_number_by (dCons (dVar 1) (dCons (dC (.int 0)) dNil))))
def t_l_patience_1  : DSt :=
  (dSeq (dIfS (dAnd (dB (dOp oEq (dOp oMod (dFn m_l_cell_at (dCons (dVar 0) (dCons (dC (.int 4)) dNil))) (dC (.int 8))) (dC (.int 2)))) (dB (dOp oEq (dOp oMod (dVar 1) (dC (.int 2))) (dC (.int 1))))) (dRet (dOp oMod (dOp oDiv (dVar 1) (dC (.int 2))) (dC (.int 120)))) dNext)
  t_l_patience_2)
def t_l_patience  : DSt :=
  (dSeq (dSet 1 (dFn m_l_cell_at (dCons (dVar 0) (dCons (dC (.int 1)) dNil))))
  t_l_patience_1)
local macro_rules | `(tactic| walk_at "un") => `(tactic| simp only [t_l_patience_2, t_l_patience_1, t_l_patience])
def m_l_patience : FDm := fun ds M Q _ => match ds with
  | [.scr _] => ∀ s : Int, 0 ≤ s → s ≤ 1000000000 → Q (.int s) M
  | _ => False
theorem len_l_patience : ∀ ds M Q X, m_l_patience ds M Q X → ds.length = 1 := fun ds M Q X h => by
  unfold m_l_patience at h
  split at h <;> first | rfl | exact h.elim
theorem read_l_patience : ∀ ds M Q X, m_l_patience ds M Q X → t_l_patience (bodyE Q X) (startD 2 ds) M := by
  intro ds M Q X h
  unfold m_l_patience at h
  split at h
  rotate_left
  · exact h.elim
  rename_i ns
  unfold t_l_patience t_l_patience_1
  walk_at "dl"
  have h1 := numberBy_lo (c := cellAt ns 1) (l := 0) (by decide) (by decide)
  have h2 := numberBy_hi (c := cellAt ns 1) (l := 0) (by decide) (by decide)
  have g1 := Int.emod_nonneg (cellAt ns 1 / 2) (show (120 : Int) ≠ 0 by decide)
  have g2 := Int.emod_lt_of_pos (cellAt ns 1 / 2) (show (0 : Int) < 120 by decide)
  have rest : t_l_patience_2 (bodyE Q X) [some (.scr ns), some (.int (cellAt ns 1))] M := by
    unfold t_l_patience_2
    walk_at "dl"
    exact retD_of (h _ h1 h2)
  refine cond_dec (fun _ => cond_dec (fun _ => ?_) fun _ => rest) fun _ => rest
  exact retD_of (h _ (by omega) (by omega))
-- SIMP m_l_patience

local macro_rules | `(tactic| walk_at "dl") => `(tactic| try simp -implicitDefEqProofs only [DL.dNext, DL.dSeq, DL.dExpr, DL.dRet, DL.dIfS, DL.dSet, DL.dCont, DL.dRaise, DL.dFor, DL.dgName, DL.dgPair, DL.dTry, DL.dFn, DL.dMth, DL.dMk, DL.dFld, DL.dFldS, DL.dPut, DL.dVar, DL.slot, DL.dC, DL.dOp, DL.dUn, DL.oSub, DL.oMul, DL.oDiv, DL.oMod, DL.oPow, DL.oLt, DL.oLe, DL.oGt, DL.oGe, DL.oEq, DL.oNe, DL.oIn, DL.oNotIn, DL.dB, DL.dIsN, DL.dChain, DL.dAnd, DL.dOr, DL.dNot, DL.dAndV, DL.dOrV, DL.dNotV, DL.dIf, DL.dNil, DL.dCons, DL.few, DL.dLst, DL.dTup, DL.dLstM, DL.dFrz, DL.dPairs, DL.dDisp, DL.dDic0, DL.dSl, DL.dNoPart, DL.dCall, DL.dMet0L, DL.dMet, DL.dItems, DL.dRange1, DL.dEnum, DL.dLcM, DL.dwipe, DL.startD, DL.dNever, DL.el_some, DL.elL_lst, DL.elD_dic, DL.elI_ins, DL.res_non, DL.res_bl, DL.res_int, DL.res_str, DL.res_lst, DL.res_tupE, DL.res_dic, DL.res_scr, DL.res_ty, DL.oAdd_eq, DL.addR_int, DL.addR_str, DL.addR_lst, DL.addR_tup, DL.oAddM_eq, DL.addMR_lst, DL.oInt_eq, DL.intR_int, DL.oInt0_eq, DL.int0R_int, DL.oNeg_eq, DL.negR_int, DL.oEqN_eq, DL.eqR_some, DL.eqR_none, DL.eqS_non_non, DL.eqS_non_int, DL.eqS_non_bl, DL.eqS_non_str, DL.eqS_non_lst, DL.eqS_non_tup, DL.eqS_int_non, DL.eqS_int_int, DL.eqS_int_bl, DL.eqS_int_str, DL.eqS_int_lst, DL.eqS_int_tup, DL.eqS_bl_non, DL.eqS_bl_int, DL.eqS_bl_bl, DL.eqS_bl_str, DL.eqS_bl_lst, DL.eqS_bl_tup, DL.eqS_str_non, DL.eqS_str_int, DL.eqS_str_bl, DL.eqS_str_str, DL.eqS_str_lst, DL.eqS_str_tup, DL.eqS_lst_non, DL.eqS_lst_int, DL.eqS_lst_bl, DL.eqS_lst_str, DL.eqS_lst_lst, DL.eqS_lst_tup, DL.eqS_tup_non, DL.eqS_tup_int, DL.eqS_tup_bl, DL.eqS_tup_str, DL.eqS_tup_lst, DL.eqS_tup_tup, DL.eqS_obj_non, DL.eqS_non_obj, DL.eqS_obj_int, DL.eqS_int_obj, DL.eqS_obj_bl, DL.eqS_bl_obj, DL.eqS_obj_str, DL.eqS_str_obj, DL.eqS_obj_lst, DL.eqS_lst_obj, DL.eqS_obj_tup, DL.eqS_tup_obj, DL.eqS_obj_obj, DL.oInN_eq, DL.inR_lst, DL.inR_tup, DL.inR_str, DL.flatD_non, DL.flatD_bl, DL.flatD_int, DL.flatD_str, DL.asB_bl, DL.isN_non, DL.isN_bl, DL.isN_int, DL.isN_str, DL.isN_lst, DL.isN_tup, DL.isN_dic, DL.isN_scr, DL.isN_ty, DL.isN_obj, DL.frz_non, DL.frz_bl, DL.frz_int, DL.frz_str, DL.frz_lst, DL.frz_tup, DL.frz_dic, DL.frz_scr, DL.frz_ty, DL.oIx_eq, DL.ixR_lst, DL.ixR_tup, DL.ixR_scr, DL.ixR_str, DL.ixR_dic, DL.nth_0, DL.nth_1, DL.nth_2, DL.nth_3, DL.oSl_eq, DL.slR_lst, DL.slR_tup, DL.slR_str, DL.dPart_eq, DL.partR_int, DL.on1_cons, DL.on2_cons, DL.lenD_lst, DL.lenD_tup, DL.lenD_scr, DL.lenD_str, DL.intD_int, DL.intD_bl, DL.strD_int, DL.int2_int, DL.listM_lst, DL.listF_lst, DL.listM_tup, DL.listF_tup, DL.dictM_dic, DL.isiD_ty, DL.oAppend_obj, DL.oInsert_obj, DL.oPop_obj, DL.oPopAt_obj, DL.isLst_eq, DL.isLstR_lst, DL.isStr_str, DL.oSplit_str, DL.oJoin_str, DL.itemsOf_lst, DL.itemsOf_tup, DL.itemsOf_str, DL.rng1_int, DL.enumOf_lst, DL.two_tup, DL.insIs_obj, DL.getFld_obj, DL.setFld_obj, DL.putDic_obj, DL.isB_str_non, DL.isB_str_bl, DL.isB_str_int, DL.isB_str_str, DL.isB_str_lst, DL.isB_str_tup, DL.isB_str_dic, DL.isB_int_non, DL.isB_int_bl, DL.isB_int_int, DL.isB_int_str, DL.isB_int_lst, DL.isB_int_tup, DL.isB_int_dic, DL.isB_bool_non, DL.isB_bool_bl, DL.isB_bool_int, DL.isB_bool_str, DL.isB_bool_lst, DL.isB_bool_tup, DL.isB_bool_dic, DL.isB_list_non, DL.isB_list_bl, DL.isB_list_int, DL.isB_list_str, DL.isB_list_lst, DL.isB_list_tup, DL.isB_list_dic, DL.isB_tuple_non, DL.isB_tuple_bl, DL.isB_tuple_int, DL.isB_tuple_str, DL.isB_tuple_lst, DL.isB_tuple_tup, DL.isB_tuple_dic, Bool.cond_true, Bool.cond_false, L2.CDiv, Int.reduceLT, Int.reduceLE, true_and, and_true, cond_true, cond_false, List.map_cons, List.map_nil, List.set_cons_zero, List.set_cons_succ, List.set_nil, DL.cpow_109, DL.pow_109, DL.frz_set_lst, DL.frz_set_dic, Bool.not_true, Bool.not_false, DL.itemsOf_obj, DL.enumOf_obj, DL.all_still, okD_non, okD_bl, okD_int, okD_str, okD_lst, okD_tup, okD_dic, res_set_lst, Mem.set_same, Mem.set_set, lk_seats, lk_patience, lk_reading, lk_alone, lk_asking, lk_waiting, lk_rows, no_is_inside, no_is_waiting, no_look, no_come, no_leave, no_ask, no_ease, no_settled, no_begun, no_readers, no_writer, no_asker, no_line, no_passed, no_journal, dp_reading, dp_reading0, dp_reading1, dp_alone, dp_alone0, dp_asking, dp_asking0, dp_waiting, dp_rows, few_flds, eNames, isN_optS, res_optS, optS_some, optS_none, Option.isNone_none, Option.isNone_some, ln_queue, ln_reading, ln_alone, ln_asked, dn_queue, dn_reading, dn_reading0, dn_reading1, dn_aloneO, dn_alone, dn_alone0, dn_asked, dn_asked0, few_eN, nod_eN, eqS_optS2, m_l_cell_at, Int.reduceLE, m_l_number_by, m_l_seats, m_l_patience])
/-! ### _law_people(_law_cell, _law_many): 0 _law_cell, 1 _law_many, 2 _law_some, 3 _law_head, 4 _law_rest, 5 _law_k, 6 _law_way, 7 _law_left, 8 _law_right -/
def t_l_people_L1_1  : DSt :=
  (dSet 4 (dOp oDiv (dVar 4) (dC (.int 36))))
def t_l_people_L1  : DSt :=
  (dSeq (dSet 3 (dOp oAdd (dVar 3) (dOp oIx (dVar 2) (dOp oMod (dVar 4) (dC (.int 36))))))
  t_l_people_L1_1)
def t_l_people_10  : DSt :=
  (dRet (dLc (dRange1 (dCons (dVar 1) dNil)) 5 dYes (dOp oAdd (dVar 3) (dCall (on1 strD) (dCons (dVar 5) dNil)))))
def t_l_people_9  : DSt :=
  (dSeq (dSet 3 (dSl (dVar 3) dNoPart (dPart (dOp oSub (dC (.int 10)) (dCall (on1 intD) (dCons (dOp oGt (dVar 1) (dC (.int 99))) dNil))))))
  t_l_people_10)
def t_l_people_8  : DSt :=
  (dSeq (dIfS (dAnd (dB (dOp oLt (dVar 6) (dC (.int 4)))) (dB (dOp oLt (dVar 1) (dC (.int 37))))) (dSeq (dSet 7 (dSl (dVar 3) dNoPart (dPart (dOp oMod (dOp oDiv (dVar 0) (dC (.int 5))) (dOp oAdd (dCall (on1 lenD) (dCons (dVar 3) dNil)) (dC (.int 1)))))))
  (dSeq (dSet 8 (dSl (dVar 3) (dPart (dCall (on1 lenD) (dCons (dVar 7) dNil))) dNoPart))
  (dRet (dLc (dRange1 (dCons (dVar 1) dNil)) 5 dYes (dOp oAdd (dOp oAdd (dVar 7) (dOp oIx (dVar 2) (dOp oMod (dOp oAdd (dOp oDiv (dVar 0) (dC (.int 7))) (dOp oMul (dC (.int 7)) (dVar 5))) (dC (.int 36))))) (dVar 8)))))) dNext)
  t_l_people_9)
def t_l_people_7  : DSt :=
  (dSeq (dSet 3 (dSl (dVar 3) dNoPart (dPart (dOp oMod (dOp oDiv (dVar 0) (dC (.int 6))) (dC (.int 12))))))
  t_l_people_8)
def t_l_people_6  : DSt :=
  (dSeq (dIfS (dAnd (dB (dOp oEq (dVar 6) (dC (.int 1)))) (dB (dOp oLt (dVar 1) (dC (.int 13))))) (dRet (dLc (dRange1 (dCons (dVar 1) dNil)) 5 dYes (dSl (dVar 3) (dPart (dOp oSub (dC (.int 11)) (dVar 5))) dNoPart))) dNext)
  t_l_people_7)
def t_l_people_5  : DSt :=
  (dSeq (dIfS (dAnd (dB (dOp oEq (dVar 6) (dC (.int 0)))) (dB (dOp oLt (dVar 1) (dC (.int 13))))) (dRet (dLc (dRange1 (dCons (dVar 1) dNil)) 5 dYes (dSl (dVar 3) dNoPart (dPart (dOp oAdd (dVar 5) (dC (.int 1))))))) dNext)
  t_l_people_6)
def t_l_people_4  : DSt :=
  (dSeq (dSet 6 (dOp oMod (dVar 0) (dC (.int 6))))
  t_l_people_5)
def t_l_people_3  : DSt :=
  (dSeq (dFor (dRange1 (dCons (dC (.int 12)) dNil)) (dgName 5) t_l_people_L1)
  t_l_people_4)
def t_l_people_2  : DSt :=
  (dSeq (dSet 4 (dOp oDiv (dVar 0) (dC (.int 36))))
  t_l_people_3)
def t_l_people_1  : DSt :=
  (dSeq (dSet 3 (dC (.str "")))
  t_l_people_2)
def t_l_people  : DSt :=
  (dSeq (dSet 2 (dC (.str "abcdefghijklmnopqrstuvwxyz0123456789")))
  t_l_people_1)
local macro_rules | `(tactic| walk_at "un") => `(tactic| simp only [t_l_people_10, t_l_people_9, t_l_people_8, t_l_people_7, t_l_people_6, t_l_people_5, t_l_people_4, t_l_people_3, t_l_people_2, t_l_people_1, t_l_people])
def m_l_people : FDm := fun ds M Q _ => match ds with
  | [.int _, .int many] => 0 ≤ many ∧ many ≤ 99 ∧ ∀ names : List Str, names.length = many.toNat → (∀ z ∈ names, nameOk z = true) → Q (.lst (names.map .str)) M
  | _ => False
theorem len_l_people : ∀ ds M Q X, m_l_people ds M Q X → ds.length = 2 := fun ds M Q X h => by
  unfold m_l_people at h
  split at h <;> first | rfl | exact h.elim
theorem people_fin {n : Nat} {many : Int} {M : Mem} {Q : QD} (hn : n = many.toNat) (h : ∀ names : List Str, names.length = many.toNat → (∀ z ∈ names, nameOk z = true) → Q (.lst (names.map .str)) M) (g : Nat → Str) (hg : ∀ k, k < n → nameOk (g k) = true) :
    retD Q (.lst ((List.range n).map fun k => .str (g k))) M := by
  have := h ((List.range n).map g) (by rw [List.length_map, List.length_range]; exact hn) (fun z hz => by
    obtain ⟨k, hk, rfl⟩ := List.mem_map.mp hz
    exact hg k (List.mem_range.mp hk))
  rw [List.map_map] at this
  exact retD_of this
theorem read_l_people : ∀ ds M Q X, m_l_people ds M Q X → t_l_people (bodyE Q X) (startD 9 ds) M := by
  intro ds M Q X h
  unfold m_l_people at h
  split at h
  rotate_left
  · exact h.elim
  rename_i c many
  obtain ⟨h0, h99, h⟩ := h
  unfold t_l_people t_l_people_1 t_l_people_2 t_l_people_3
  walk_at "dl"
  have hr : (rangeD 0 (Int.toNat 12)).length = 12 := by decide
  have sl : sizeLine = 16777216 := sizeLine_eq
  refine ⟨fun k δ M' => M' = M ∧ ∃ (z : Str) (r : Int) (o : Option D), good z ∧ z.length = k ∧ δ = [some (.int c), some (.int many), some (.str (Str.ofString "abcdefghijklmnopqrstuvwxyz0123456789")), some (.str z), some (.int r), o, none, none, none], ⟨rfl, _, _, _, (by intro x hx; cases hx), (by decide +kernel), rfl⟩, ?_, ?_⟩
  · rintro k x δ M' hx ⟨rfl, z, r, o, hg, hz, rfl⟩
    refine ⟨trivial, ?_⟩
    have hk := (List.getElem?_eq_some_iff.mp hx).1
    rw [hr] at hk
    unfold t_l_people_L1 t_l_people_L1_1
    walk_at "dl"
    rw [show (Str.ofString "abcdefghijklmnopqrstuvwxyz0123456789").cps.toList = signsL from rfl, nth_sign]
    refine ⟨by show z.length + 1 ≤ sizeLine; omega, z ++ ⟨#[signAt r]⟩, _, _, good_app hg (good_one _), by rw [len_append, hz]; rfl, rfl⟩
  · rintro δ M' ⟨rfl, z, r, o, hg, hz, rfl⟩
    rw [hr] at hz
    refine ⟨trivial, ?_⟩
    unfold t_l_people_4 t_l_people_5
    walk_at "dl"
    have m6 := Int.emod_nonneg c (show (6 : Int) ≠ 0 by decide)
    have e6 : ∀ {A B : Prop} (w : Int), (c % 6 = w → many < 13 → A) → B → cond (decide (c % 6 = w)) (cond (decide (many < 13)) A B) B := fun {A B} w hA hB =>
      cond_dec (fun h1 => cond_dec (fun h2 => hA h1 h2) fun _ => hB) fun _ => hB
    refine e6 0 (fun _ h13 => ⟨by omega, by omega, lc_rangeD (fun k => .str (cutS z none (some ((k : Int) + 1)))) (fun k hk M1 hs Qd q => ?_) ?_⟩) ?_
    · walk_at "dl"
      exact q
    · refine people_fin rfl h _ fun k hk => ?_
      have := cut_hi_len z (k := (k : Int) + 1) (by omega)
      exact nameOk_of (by omega) (by omega) (good_cut hg _ _)
    unfold t_l_people_6
    walk_at "dl"
    refine e6 1 (fun _ h13 => ⟨by omega, by omega, lc_rangeD (fun k => .str (cutS z (some (11 - (k : Int))) none)) (fun k hk M1 hs Qd q => ?_) ?_⟩) ?_
    · walk_at "dl"
      exact q
    · refine people_fin rfl h _ fun k hk => ?_
      have := cut_lo_len z (k := 11 - (k : Int)) (by omega)
      exact nameOk_of (by omega) (by omega) (good_cut hg _ _)
    unfold t_l_people_7 t_l_people_8
    walk_at "dl"
    have p1 := Int.emod_nonneg (c / 6) (show (12 : Int) ≠ 0 by decide)
    have p2 := Int.emod_lt_of_pos (c / 6) (show (0 : Int) < 12 by decide)
    have hl1 := cut_hi_len z p1
    have hg1 := good_cut hg none (some (c / 6 % 12))
    generalize cutS z none (some (c / 6 % 12)) = y at hl1 hg1 ⊢
    have rest : t_l_people_9 (bodyE Q X) [some (.int c), some (.int many), some (.str (Str.ofString "abcdefghijklmnopqrstuvwxyz0123456789")), some (.str y), some (.int r), o, some (.int (c % 6)), none, none] M' := by
      unfold t_l_people_9 t_l_people_10
      walk_at "dl"
      have h9 : decide (99 < many) = false := decide_eq_false (by omega)
      rw [h9]
      have hl2 := cut_hi_len y (k := 10 - cond false 1 0) (by decide)
      have hg2 := good_cut hg1 none (some (10 - cond false 1 0))
      have e10 : (10 - cond false (1 : Int) 0) = 10 := by decide
      rw [e10] at hl2 hg2 ⊢
      generalize cutS y none (some 10) = x at hl2 hg2 ⊢
      have t10 : Int.toNat 10 = 10 := rfl
      rw [t10] at hl2
      refine ⟨by omega, by omega, lc_rangeD (fun k => .str (x ++ Str.ofString (toString (k : Int)))) (fun k hk M1 hs Qd q => ?_) ?_⟩
      · have hk2 := num_good (n := k) (by omega)
        walk_at "dl"
        refine ⟨by omega, by omega, ?_, q⟩
        show x.length + (Str.ofString (toString (k : Int))).length ≤ sizeLine
        omega
      · refine people_fin rfl h (fun k => x ++ Str.ofString (toString (k : Int))) fun k hk => ?_
        have hk2 := num_good (n := k) (by omega)
        refine nameOk_of ?_ ?_ (good_app hg2 hk2.1)
        · rw [len_append]; omega
        · rw [len_append]; omega
    refine cond_dec (fun h4 => cond_dec (fun h37 => ?_) fun _ => rest) fun _ => rest
    have q0 : (0 : Int) < (y.length : Int) + 1 := by omega
    have q1 := Int.emod_nonneg (c / 5) (show (y.length : Int) + 1 ≠ 0 by omega)
    have q2 := Int.emod_lt_of_pos (c / 5) q0
    have hl2 := cut_hi_len y q1
    have hg2 := good_cut hg1 none (some (c / 5 % ((y.length : Int) + 1)))
    generalize cutS y none (some (c / 5 % ((y.length : Int) + 1))) = u at hl2 hg2 ⊢
    have hl3 := cut_lo_len y (k := (u.length : Int)) (by omega)
    have hg3 := good_cut hg1 (some (u.length : Int)) none
    generalize cutS y (some (u.length : Int)) none = v at hl3 hg3 ⊢
    rw [Int.toNat_natCast] at hl3
    refine ⟨q0, by omega, by omega, lc_rangeD (fun k => .str (u ++ ⟨#[signAt (c / 7 + 7 * (k : Int))]⟩ ++ v)) (fun k hk M1 hs Qd q => ?_) ?_⟩
    · walk_at "dl"
      refine ⟨.inl ⟨by decide, by decide⟩, ?_⟩
      rw [show (Str.ofString "abcdefghijklmnopqrstuvwxyz0123456789").cps.toList = signsL from rfl, nth_sign]
      refine ⟨by show u.length + 1 ≤ sizeLine; omega, ?_, q⟩
      rw [len_append]
      show u.length + 1 + v.length ≤ sizeLine
      omega
    · refine people_fin rfl h (fun k => u ++ ⟨#[signAt (c / 7 + 7 * (k : Int))]⟩ ++ v) fun k hk => ?_
      have e1 : (u ++ (⟨#[signAt (c / 7 + 7 * (k : Int))]⟩ : Str) ++ v).length = u.length + 1 + v.length := by
        rw [len_append, len_append]; rfl
      refine nameOk_of ?_ ?_ (good_app (good_app hg2 (good_one _)) hg3)
      · omega
      · omega
-- SIMP m_l_people

local macro_rules | `(tactic| walk_at "dl") => `(tactic| try simp -implicitDefEqProofs only [DL.dNext, DL.dSeq, DL.dExpr, DL.dRet, DL.dIfS, DL.dSet, DL.dCont, DL.dRaise, DL.dFor, DL.dgName, DL.dgPair, DL.dTry, DL.dFn, DL.dMth, DL.dMk, DL.dFld, DL.dFldS, DL.dPut, DL.dVar, DL.slot, DL.dC, DL.dOp, DL.dUn, DL.oSub, DL.oMul, DL.oDiv, DL.oMod, DL.oPow, DL.oLt, DL.oLe, DL.oGt, DL.oGe, DL.oEq, DL.oNe, DL.oIn, DL.oNotIn, DL.dB, DL.dIsN, DL.dChain, DL.dAnd, DL.dOr, DL.dNot, DL.dAndV, DL.dOrV, DL.dNotV, DL.dIf, DL.dNil, DL.dCons, DL.few, DL.dLst, DL.dTup, DL.dLstM, DL.dFrz, DL.dPairs, DL.dDisp, DL.dDic0, DL.dSl, DL.dNoPart, DL.dCall, DL.dMet0L, DL.dMet, DL.dItems, DL.dRange1, DL.dEnum, DL.dLcM, DL.dwipe, DL.startD, DL.dNever, DL.el_some, DL.elL_lst, DL.elD_dic, DL.elI_ins, DL.res_non, DL.res_bl, DL.res_int, DL.res_str, DL.res_lst, DL.res_tupE, DL.res_dic, DL.res_scr, DL.res_ty, DL.oAdd_eq, DL.addR_int, DL.addR_str, DL.addR_lst, DL.addR_tup, DL.oAddM_eq, DL.addMR_lst, DL.oInt_eq, DL.intR_int, DL.oInt0_eq, DL.int0R_int, DL.oNeg_eq, DL.negR_int, DL.oEqN_eq, DL.eqR_some, DL.eqR_none, DL.eqS_non_non, DL.eqS_non_int, DL.eqS_non_bl, DL.eqS_non_str, DL.eqS_non_lst, DL.eqS_non_tup, DL.eqS_int_non, DL.eqS_int_int, DL.eqS_int_bl, DL.eqS_int_str, DL.eqS_int_lst, DL.eqS_int_tup, DL.eqS_bl_non, DL.eqS_bl_int, DL.eqS_bl_bl, DL.eqS_bl_str, DL.eqS_bl_lst, DL.eqS_bl_tup, DL.eqS_str_non, DL.eqS_str_int, DL.eqS_str_bl, DL.eqS_str_str, DL.eqS_str_lst, DL.eqS_str_tup, DL.eqS_lst_non, DL.eqS_lst_int, DL.eqS_lst_bl, DL.eqS_lst_str, DL.eqS_lst_lst, DL.eqS_lst_tup, DL.eqS_tup_non, DL.eqS_tup_int, DL.eqS_tup_bl, DL.eqS_tup_str, DL.eqS_tup_lst, DL.eqS_tup_tup, DL.eqS_obj_non, DL.eqS_non_obj, DL.eqS_obj_int, DL.eqS_int_obj, DL.eqS_obj_bl, DL.eqS_bl_obj, DL.eqS_obj_str, DL.eqS_str_obj, DL.eqS_obj_lst, DL.eqS_lst_obj, DL.eqS_obj_tup, DL.eqS_tup_obj, DL.eqS_obj_obj, DL.oInN_eq, DL.inR_lst, DL.inR_tup, DL.inR_str, DL.flatD_non, DL.flatD_bl, DL.flatD_int, DL.flatD_str, DL.asB_bl, DL.isN_non, DL.isN_bl, DL.isN_int, DL.isN_str, DL.isN_lst, DL.isN_tup, DL.isN_dic, DL.isN_scr, DL.isN_ty, DL.isN_obj, DL.frz_non, DL.frz_bl, DL.frz_int, DL.frz_str, DL.frz_lst, DL.frz_tup, DL.frz_dic, DL.frz_scr, DL.frz_ty, DL.oIx_eq, DL.ixR_lst, DL.ixR_tup, DL.ixR_scr, DL.ixR_str, DL.ixR_dic, DL.nth_0, DL.nth_1, DL.nth_2, DL.nth_3, DL.oSl_eq, DL.slR_lst, DL.slR_tup, DL.slR_str, DL.dPart_eq, DL.partR_int, DL.on1_cons, DL.on2_cons, DL.lenD_lst, DL.lenD_tup, DL.lenD_scr, DL.lenD_str, DL.intD_int, DL.intD_bl, DL.strD_int, DL.int2_int, DL.listM_lst, DL.listF_lst, DL.listM_tup, DL.listF_tup, DL.dictM_dic, DL.isiD_ty, DL.oAppend_obj, DL.oInsert_obj, DL.oPop_obj, DL.oPopAt_obj, DL.isLst_eq, DL.isLstR_lst, DL.isStr_str, DL.oSplit_str, DL.oJoin_str, DL.itemsOf_lst, DL.itemsOf_tup, DL.itemsOf_str, DL.rng1_int, DL.enumOf_lst, DL.two_tup, DL.insIs_obj, DL.getFld_obj, DL.setFld_obj, DL.putDic_obj, DL.isB_str_non, DL.isB_str_bl, DL.isB_str_int, DL.isB_str_str, DL.isB_str_lst, DL.isB_str_tup, DL.isB_str_dic, DL.isB_int_non, DL.isB_int_bl, DL.isB_int_int, DL.isB_int_str, DL.isB_int_lst, DL.isB_int_tup, DL.isB_int_dic, DL.isB_bool_non, DL.isB_bool_bl, DL.isB_bool_int, DL.isB_bool_str, DL.isB_bool_lst, DL.isB_bool_tup, DL.isB_bool_dic, DL.isB_list_non, DL.isB_list_bl, DL.isB_list_int, DL.isB_list_str, DL.isB_list_lst, DL.isB_list_tup, DL.isB_list_dic, DL.isB_tuple_non, DL.isB_tuple_bl, DL.isB_tuple_int, DL.isB_tuple_str, DL.isB_tuple_lst, DL.isB_tuple_tup, DL.isB_tuple_dic, Bool.cond_true, Bool.cond_false, L2.CDiv, Int.reduceLT, Int.reduceLE, true_and, and_true, cond_true, cond_false, List.map_cons, List.map_nil, List.set_cons_zero, List.set_cons_succ, List.set_nil, DL.cpow_109, DL.pow_109, DL.frz_set_lst, DL.frz_set_dic, Bool.not_true, Bool.not_false, DL.itemsOf_obj, DL.enumOf_obj, DL.all_still, okD_non, okD_bl, okD_int, okD_str, okD_lst, okD_tup, okD_dic, res_set_lst, Mem.set_same, Mem.set_set, lk_seats, lk_patience, lk_reading, lk_alone, lk_asking, lk_waiting, lk_rows, no_is_inside, no_is_waiting, no_look, no_come, no_leave, no_ask, no_ease, no_settled, no_begun, no_readers, no_writer, no_asker, no_line, no_passed, no_journal, dp_reading, dp_reading0, dp_reading1, dp_alone, dp_alone0, dp_asking, dp_asking0, dp_waiting, dp_rows, few_flds, eNames, isN_optS, res_optS, optS_some, optS_none, Option.isNone_none, Option.isNone_some, ln_queue, ln_reading, ln_alone, ln_asked, dn_queue, dn_reading, dn_reading0, dn_reading1, dn_aloneO, dn_alone, dn_alone0, dn_asked, dn_asked0, few_eN, nod_eN, eqS_optS2, m_l_cell_at, Int.reduceLE, m_l_number_by, m_l_seats, m_l_patience, m_l_people])
/-! ### _law_names(_law_script, _law_many): 0 _law_script, 1 _law_many, 2 _law_way, 3 _law_people_here -/
def t_l_names_4  : DSt :=
  (dRet (dFn m_l_people (dCons (dFn m_l_cell_at (dCons (dVar 0) (dCons (dC (.int 3)) dNil))) (dCons (dVar 1) dNil))))
def t_l_names_3  : DSt :=
  (dSeq (dIfS (dB (dOp oEq (dVar 2) (dC (.int 3)))) (dRet (dSl (dVar 3) (dPart (dOp oSub (dC (.int 70)) (dVar 1))) dNoPart)) dNext)
  t_l_names_4)
def t_l_names_2  : DSt :=
  (dSeq (dIfS (dOr (dB (dOp oEq (dVar 2) (dC (.int 1)))) (dB (dOp oEq (dVar 2) (dC (.int 2))))) (dRet (dSl (dVar 3) dNoPart (dPart (dOp oAdd (dOp oAdd (dVar 1) (dC (.int 3))) (dOp oMul (dOp oMul (dC (.int 5)) (dVar 1)) (dCall (on1 intD) (dCons (dOp oEq (dVar 2) (dC (.int 1))) dNil))))))) dNext)
  t_l_names_3)
def t_l_names_1  : DSt :=
  (dSeq (dSet 3 (dFn m_l_people (dCons (dFn m_l_cell_at (dCons (dVar 0) (dCons (dC (.int 3)) dNil))) (dCons (dC (.int 80)) dNil))))
  t_l_names_2)
def t_l_names  : DSt :=
  (dSeq (dSet 2 (dOp oMod (dFn m_l_cell_at (dCons (dVar 0) (dCons (dC (.int 4)) dNil))) (dC (.int 8))))
  t_l_names_1)
local macro_rules | `(tactic| walk_at "un") => `(tactic| simp only [t_l_names_4, t_l_names_3, t_l_names_2, t_l_names_1, t_l_names])
def m_l_names : FDm := fun ds M Q _ => match ds with
  | [.scr _, .int many] => 1 ≤ many ∧ many ≤ 12 ∧ ∀ names : List Str, 1 ≤ names.length → names.length ≤ 75 → (∀ z ∈ names, nameOk z = true) → Q (.lst (names.map .str)) M
  | _ => False
theorem len_l_names : ∀ ds M Q X, m_l_names ds M Q X → ds.length = 2 := fun ds M Q X h => by
  unfold m_l_names at h
  split at h <;> first | rfl | exact h.elim
theorem dcut_hi {α : Type} (xs : List α) {k : Int} (h : 0 ≤ k) : dcut xs none (some k) = xs.take k.toNat := by
  obtain ⟨n, rfl⟩ := Int.eq_ofNat_of_zero_le h
  exact dcut_take xs n
theorem dcut_lo {α : Type} (xs : List α) {k : Int} (h : 0 ≤ k) : dcut xs (some k) none = xs.drop k.toNat := by
  obtain ⟨n, rfl⟩ := Int.eq_ofNat_of_zero_le h
  show dcut xs (some (n : Int)) none = xs.drop n
  unfold dcut
  rw [HT.sIx_none, HT.sIx_nat]
  by_cases h : n ≤ xs.length
  · rw [Nat.min_eq_left h, List.take_of_length_le (by rw [List.length_drop]; omega)]
  · rw [Nat.min_eq_right (by omega), List.drop_of_length_le (Nat.le_refl _), List.drop_of_length_le (by omega), List.take_nil]
theorem read_l_names : ∀ ds M Q X, m_l_names ds M Q X → t_l_names (bodyE Q X) (startD 4 ds) M := by
  intro ds M Q X h
  unfold m_l_names at h
  split at h
  rotate_left
  · exact h.elim
  rename_i ns many
  obtain ⟨h1, h2, h⟩ := h
  unfold t_l_names t_l_names_1
  walk_at "dl"
  intro names hn hz
  have e80 : (Int.toNat 80) = 80 := rfl
  rw [e80] at hn
  have cut : ∀ k : Int, 4 ≤ k → k ≤ 75 → retD Q (.lst (dcut (names.map .str) none (some k))) M := fun k k1 k2 => by
    rw [dcut_hi _ (by omega), ← List.map_take]
    refine retD_of (h _ ?_ ?_ fun z hm => hz z (List.mem_of_mem_take hm))
    · rw [List.length_take]; omega
    · rw [List.length_take]; omega
  unfold t_l_names_2
  walk_at "dl"
  have rest : t_l_names_3 (bodyE Q X) [some (.scr ns), some (.int many), some (.int (cellAt ns 4 % 8)), some (.lst (names.map .str))] M := by
    unfold t_l_names_3
    walk_at "dl"
    refine cond_dec (fun _ => ?_) fun _ => ?_
    · rw [dcut_lo _ (by omega), ← List.map_drop]
      refine retD_of (h _ ?_ ?_ fun z hm => hz z (List.mem_of_mem_drop hm))
      · rw [List.length_drop]; omega
      · rw [List.length_drop]; omega
    · unfold t_l_names_4
      walk_at "dl"
      refine ⟨by omega, by omega, fun names hn hz => retD_of (h _ (by omega) (by omega) hz)⟩
  have c5 : CMul 5 many := .inl ⟨by decide, by decide⟩
  have c6 : ∀ b, CMul (5 * many) b := fun b => .inl ⟨by omega, by omega⟩
  refine cond_dec (fun e => ⟨c5, c6 _, ?_⟩) fun e => cond_dec (fun e2 => ⟨c5, c6 _, ?_⟩) fun _ => rest
  · rw [decide_eq_true e]
    exact cut _ (by rw [cond_true]; omega) (by rw [cond_true]; omega)
  · rw [decide_eq_false e]
    exact cut _ (by rw [cond_false]; omega) (by rw [cond_false]; omega)
-- SIMP m_l_names

local macro_rules | `(tactic| walk_at "dl") => `(tactic| try simp -implicitDefEqProofs only [DL.dNext, DL.dSeq, DL.dExpr, DL.dRet, DL.dIfS, DL.dSet, DL.dCont, DL.dRaise, DL.dFor, DL.dgName, DL.dgPair, DL.dTry, DL.dFn, DL.dMth, DL.dMk, DL.dFld, DL.dFldS, DL.dPut, DL.dVar, DL.slot, DL.dC, DL.dOp, DL.dUn, DL.oSub, DL.oMul, DL.oDiv, DL.oMod, DL.oPow, DL.oLt, DL.oLe, DL.oGt, DL.oGe, DL.oEq, DL.oNe, DL.oIn, DL.oNotIn, DL.dB, DL.dIsN, DL.dChain, DL.dAnd, DL.dOr, DL.dNot, DL.dAndV, DL.dOrV, DL.dNotV, DL.dIf, DL.dNil, DL.dCons, DL.few, DL.dLst, DL.dTup, DL.dLstM, DL.dFrz, DL.dPairs, DL.dDisp, DL.dDic0, DL.dSl, DL.dNoPart, DL.dCall, DL.dMet0L, DL.dMet, DL.dItems, DL.dRange1, DL.dEnum, DL.dLcM, DL.dwipe, DL.startD, DL.dNever, DL.el_some, DL.elL_lst, DL.elD_dic, DL.elI_ins, DL.res_non, DL.res_bl, DL.res_int, DL.res_str, DL.res_lst, DL.res_tupE, DL.res_dic, DL.res_scr, DL.res_ty, DL.oAdd_eq, DL.addR_int, DL.addR_str, DL.addR_lst, DL.addR_tup, DL.oAddM_eq, DL.addMR_lst, DL.oInt_eq, DL.intR_int, DL.oInt0_eq, DL.int0R_int, DL.oNeg_eq, DL.negR_int, DL.oEqN_eq, DL.eqR_some, DL.eqR_none, DL.eqS_non_non, DL.eqS_non_int, DL.eqS_non_bl, DL.eqS_non_str, DL.eqS_non_lst, DL.eqS_non_tup, DL.eqS_int_non, DL.eqS_int_int, DL.eqS_int_bl, DL.eqS_int_str, DL.eqS_int_lst, DL.eqS_int_tup, DL.eqS_bl_non, DL.eqS_bl_int, DL.eqS_bl_bl, DL.eqS_bl_str, DL.eqS_bl_lst, DL.eqS_bl_tup, DL.eqS_str_non, DL.eqS_str_int, DL.eqS_str_bl, DL.eqS_str_str, DL.eqS_str_lst, DL.eqS_str_tup, DL.eqS_lst_non, DL.eqS_lst_int, DL.eqS_lst_bl, DL.eqS_lst_str, DL.eqS_lst_lst, DL.eqS_lst_tup, DL.eqS_tup_non, DL.eqS_tup_int, DL.eqS_tup_bl, DL.eqS_tup_str, DL.eqS_tup_lst, DL.eqS_tup_tup, DL.eqS_obj_non, DL.eqS_non_obj, DL.eqS_obj_int, DL.eqS_int_obj, DL.eqS_obj_bl, DL.eqS_bl_obj, DL.eqS_obj_str, DL.eqS_str_obj, DL.eqS_obj_lst, DL.eqS_lst_obj, DL.eqS_obj_tup, DL.eqS_tup_obj, DL.eqS_obj_obj, DL.oInN_eq, DL.inR_lst, DL.inR_tup, DL.inR_str, DL.flatD_non, DL.flatD_bl, DL.flatD_int, DL.flatD_str, DL.asB_bl, DL.isN_non, DL.isN_bl, DL.isN_int, DL.isN_str, DL.isN_lst, DL.isN_tup, DL.isN_dic, DL.isN_scr, DL.isN_ty, DL.isN_obj, DL.frz_non, DL.frz_bl, DL.frz_int, DL.frz_str, DL.frz_lst, DL.frz_tup, DL.frz_dic, DL.frz_scr, DL.frz_ty, DL.oIx_eq, DL.ixR_lst, DL.ixR_tup, DL.ixR_scr, DL.ixR_str, DL.ixR_dic, DL.nth_0, DL.nth_1, DL.nth_2, DL.nth_3, DL.oSl_eq, DL.slR_lst, DL.slR_tup, DL.slR_str, DL.dPart_eq, DL.partR_int, DL.on1_cons, DL.on2_cons, DL.lenD_lst, DL.lenD_tup, DL.lenD_scr, DL.lenD_str, DL.intD_int, DL.intD_bl, DL.strD_int, DL.int2_int, DL.listM_lst, DL.listF_lst, DL.listM_tup, DL.listF_tup, DL.dictM_dic, DL.isiD_ty, DL.oAppend_obj, DL.oInsert_obj, DL.oPop_obj, DL.oPopAt_obj, DL.isLst_eq, DL.isLstR_lst, DL.isStr_str, DL.oSplit_str, DL.oJoin_str, DL.itemsOf_lst, DL.itemsOf_tup, DL.itemsOf_str, DL.rng1_int, DL.enumOf_lst, DL.two_tup, DL.insIs_obj, DL.getFld_obj, DL.setFld_obj, DL.putDic_obj, DL.isB_str_non, DL.isB_str_bl, DL.isB_str_int, DL.isB_str_str, DL.isB_str_lst, DL.isB_str_tup, DL.isB_str_dic, DL.isB_int_non, DL.isB_int_bl, DL.isB_int_int, DL.isB_int_str, DL.isB_int_lst, DL.isB_int_tup, DL.isB_int_dic, DL.isB_bool_non, DL.isB_bool_bl, DL.isB_bool_int, DL.isB_bool_str, DL.isB_bool_lst, DL.isB_bool_tup, DL.isB_bool_dic, DL.isB_list_non, DL.isB_list_bl, DL.isB_list_int, DL.isB_list_str, DL.isB_list_lst, DL.isB_list_tup, DL.isB_list_dic, DL.isB_tuple_non, DL.isB_tuple_bl, DL.isB_tuple_int, DL.isB_tuple_str, DL.isB_tuple_lst, DL.isB_tuple_tup, DL.isB_tuple_dic, Bool.cond_true, Bool.cond_false, L2.CDiv, Int.reduceLT, Int.reduceLE, true_and, and_true, cond_true, cond_false, List.map_cons, List.map_nil, List.set_cons_zero, List.set_cons_succ, List.set_nil, DL.cpow_109, DL.pow_109, DL.frz_set_lst, DL.frz_set_dic, Bool.not_true, Bool.not_false, DL.itemsOf_obj, DL.enumOf_obj, DL.all_still, okD_non, okD_bl, okD_int, okD_str, okD_lst, okD_tup, okD_dic, res_set_lst, Mem.set_same, Mem.set_set, lk_seats, lk_patience, lk_reading, lk_alone, lk_asking, lk_waiting, lk_rows, no_is_inside, no_is_waiting, no_look, no_come, no_leave, no_ask, no_ease, no_settled, no_begun, no_readers, no_writer, no_asker, no_line, no_passed, no_journal, dp_reading, dp_reading0, dp_reading1, dp_alone, dp_alone0, dp_asking, dp_asking0, dp_waiting, dp_rows, few_flds, eNames, isN_optS, res_optS, optS_some, optS_none, Option.isNone_none, Option.isNone_some, ln_queue, ln_reading, ln_alone, ln_asked, dn_queue, dn_reading, dn_reading0, dn_reading1, dn_aloneO, dn_alone, dn_alone0, dn_asked, dn_asked0, few_eN, nod_eN, eqS_optS2, m_l_cell_at, Int.reduceLE, m_l_number_by, m_l_seats, m_l_patience, m_l_people, m_l_names])
/-! ### _law_wish_by(_law_cell): 0 _law_cell -/
def t_l_wish_by_1  : DSt :=
  (dRet (dC (.str "read")))
def t_l_wish_by  : DSt :=
  (dSeq (dIfS (dB (dOp oEq (dOp oMod (dVar 0) (dC (.int 3))) (dC (.int 0)))) (dRet (dC (.str "write"))) dNext)
  t_l_wish_by_1)
local macro_rules | `(tactic| walk_at "un") => `(tactic| simp only [t_l_wish_by_1, t_l_wish_by])
def m_l_wish_by : FDm := fun ds M Q _ => match ds with
  | [.int c] => Q (.str (wishS (!decide (c % 3 = 0)))) M
  | _ => False
theorem len_l_wish_by : ∀ ds M Q X, m_l_wish_by ds M Q X → ds.length = 1 := fun ds M Q X h => by
  unfold m_l_wish_by at h
  split at h <;> first | rfl | exact h.elim
theorem read_l_wish_by : ∀ ds M Q X, m_l_wish_by ds M Q X → t_l_wish_by (bodyE Q X) (startD 1 ds) M := by
  intro ds M Q X h
  unfold m_l_wish_by at h
  split at h
  rotate_left
  · exact h.elim
  rename_i c
  walk_at "un"
  walk_at "dl"
  refine cond_dec (fun e => ?_) fun e => ?_
  · rw [decide_eq_true e, Bool.not_true, wishS_f] at h
    exact retD_of h
  · rw [decide_eq_false e, Bool.not_false, wishS_t] at h
    exact retD_of h
-- SIMP m_l_wish_by

local macro_rules | `(tactic| walk_at "dl") => `(tactic| try simp -implicitDefEqProofs only [DL.dNext, DL.dSeq, DL.dExpr, DL.dRet, DL.dIfS, DL.dSet, DL.dCont, DL.dRaise, DL.dFor, DL.dgName, DL.dgPair, DL.dTry, DL.dFn, DL.dMth, DL.dMk, DL.dFld, DL.dFldS, DL.dPut, DL.dVar, DL.slot, DL.dC, DL.dOp, DL.dUn, DL.oSub, DL.oMul, DL.oDiv, DL.oMod, DL.oPow, DL.oLt, DL.oLe, DL.oGt, DL.oGe, DL.oEq, DL.oNe, DL.oIn, DL.oNotIn, DL.dB, DL.dIsN, DL.dChain, DL.dAnd, DL.dOr, DL.dNot, DL.dAndV, DL.dOrV, DL.dNotV, DL.dIf, DL.dNil, DL.dCons, DL.few, DL.dLst, DL.dTup, DL.dLstM, DL.dFrz, DL.dPairs, DL.dDisp, DL.dDic0, DL.dSl, DL.dNoPart, DL.dCall, DL.dMet0L, DL.dMet, DL.dItems, DL.dRange1, DL.dEnum, DL.dLcM, DL.dwipe, DL.startD, DL.dNever, DL.el_some, DL.elL_lst, DL.elD_dic, DL.elI_ins, DL.res_non, DL.res_bl, DL.res_int, DL.res_str, DL.res_lst, DL.res_tupE, DL.res_dic, DL.res_scr, DL.res_ty, DL.oAdd_eq, DL.addR_int, DL.addR_str, DL.addR_lst, DL.addR_tup, DL.oAddM_eq, DL.addMR_lst, DL.oInt_eq, DL.intR_int, DL.oInt0_eq, DL.int0R_int, DL.oNeg_eq, DL.negR_int, DL.oEqN_eq, DL.eqR_some, DL.eqR_none, DL.eqS_non_non, DL.eqS_non_int, DL.eqS_non_bl, DL.eqS_non_str, DL.eqS_non_lst, DL.eqS_non_tup, DL.eqS_int_non, DL.eqS_int_int, DL.eqS_int_bl, DL.eqS_int_str, DL.eqS_int_lst, DL.eqS_int_tup, DL.eqS_bl_non, DL.eqS_bl_int, DL.eqS_bl_bl, DL.eqS_bl_str, DL.eqS_bl_lst, DL.eqS_bl_tup, DL.eqS_str_non, DL.eqS_str_int, DL.eqS_str_bl, DL.eqS_str_str, DL.eqS_str_lst, DL.eqS_str_tup, DL.eqS_lst_non, DL.eqS_lst_int, DL.eqS_lst_bl, DL.eqS_lst_str, DL.eqS_lst_lst, DL.eqS_lst_tup, DL.eqS_tup_non, DL.eqS_tup_int, DL.eqS_tup_bl, DL.eqS_tup_str, DL.eqS_tup_lst, DL.eqS_tup_tup, DL.eqS_obj_non, DL.eqS_non_obj, DL.eqS_obj_int, DL.eqS_int_obj, DL.eqS_obj_bl, DL.eqS_bl_obj, DL.eqS_obj_str, DL.eqS_str_obj, DL.eqS_obj_lst, DL.eqS_lst_obj, DL.eqS_obj_tup, DL.eqS_tup_obj, DL.eqS_obj_obj, DL.oInN_eq, DL.inR_lst, DL.inR_tup, DL.inR_str, DL.flatD_non, DL.flatD_bl, DL.flatD_int, DL.flatD_str, DL.asB_bl, DL.isN_non, DL.isN_bl, DL.isN_int, DL.isN_str, DL.isN_lst, DL.isN_tup, DL.isN_dic, DL.isN_scr, DL.isN_ty, DL.isN_obj, DL.frz_non, DL.frz_bl, DL.frz_int, DL.frz_str, DL.frz_lst, DL.frz_tup, DL.frz_dic, DL.frz_scr, DL.frz_ty, DL.oIx_eq, DL.ixR_lst, DL.ixR_tup, DL.ixR_scr, DL.ixR_str, DL.ixR_dic, DL.nth_0, DL.nth_1, DL.nth_2, DL.nth_3, DL.oSl_eq, DL.slR_lst, DL.slR_tup, DL.slR_str, DL.dPart_eq, DL.partR_int, DL.on1_cons, DL.on2_cons, DL.lenD_lst, DL.lenD_tup, DL.lenD_scr, DL.lenD_str, DL.intD_int, DL.intD_bl, DL.strD_int, DL.int2_int, DL.listM_lst, DL.listF_lst, DL.listM_tup, DL.listF_tup, DL.dictM_dic, DL.isiD_ty, DL.oAppend_obj, DL.oInsert_obj, DL.oPop_obj, DL.oPopAt_obj, DL.isLst_eq, DL.isLstR_lst, DL.isStr_str, DL.oSplit_str, DL.oJoin_str, DL.itemsOf_lst, DL.itemsOf_tup, DL.itemsOf_str, DL.rng1_int, DL.enumOf_lst, DL.two_tup, DL.insIs_obj, DL.getFld_obj, DL.setFld_obj, DL.putDic_obj, DL.isB_str_non, DL.isB_str_bl, DL.isB_str_int, DL.isB_str_str, DL.isB_str_lst, DL.isB_str_tup, DL.isB_str_dic, DL.isB_int_non, DL.isB_int_bl, DL.isB_int_int, DL.isB_int_str, DL.isB_int_lst, DL.isB_int_tup, DL.isB_int_dic, DL.isB_bool_non, DL.isB_bool_bl, DL.isB_bool_int, DL.isB_bool_str, DL.isB_bool_lst, DL.isB_bool_tup, DL.isB_bool_dic, DL.isB_list_non, DL.isB_list_bl, DL.isB_list_int, DL.isB_list_str, DL.isB_list_lst, DL.isB_list_tup, DL.isB_list_dic, DL.isB_tuple_non, DL.isB_tuple_bl, DL.isB_tuple_int, DL.isB_tuple_str, DL.isB_tuple_lst, DL.isB_tuple_tup, DL.isB_tuple_dic, Bool.cond_true, Bool.cond_false, L2.CDiv, Int.reduceLT, Int.reduceLE, true_and, and_true, cond_true, cond_false, List.map_cons, List.map_nil, List.set_cons_zero, List.set_cons_succ, List.set_nil, DL.cpow_109, DL.pow_109, DL.frz_set_lst, DL.frz_set_dic, Bool.not_true, Bool.not_false, DL.itemsOf_obj, DL.enumOf_obj, DL.all_still, okD_non, okD_bl, okD_int, okD_str, okD_lst, okD_tup, okD_dic, res_set_lst, Mem.set_same, Mem.set_set, lk_seats, lk_patience, lk_reading, lk_alone, lk_asking, lk_waiting, lk_rows, no_is_inside, no_is_waiting, no_look, no_come, no_leave, no_ask, no_ease, no_settled, no_begun, no_readers, no_writer, no_asker, no_line, no_passed, no_journal, dp_reading, dp_reading0, dp_reading1, dp_alone, dp_alone0, dp_asking, dp_asking0, dp_waiting, dp_rows, few_flds, eNames, isN_optS, res_optS, optS_some, optS_none, Option.isNone_none, Option.isNone_some, ln_queue, ln_reading, ln_alone, ln_asked, dn_queue, dn_reading, dn_reading0, dn_reading1, dn_aloneO, dn_alone, dn_alone0, dn_asked, dn_asked0, few_eN, nod_eN, eqS_optS2, m_l_cell_at, Int.reduceLE, m_l_number_by, m_l_seats, m_l_patience, m_l_people, m_l_names, m_l_wish_by])
/-! ### _law_crowd(_law_script, _law_many): 0 _law_script, 1 _law_many, 2 _law_people_here, 3 _law_way, 4 _law_large, 5 _law_size, 6 _law_k, 7 _law_one, 8 _law_deeds -/
def t_l_crowd_L1_1  : DSt :=
  (dExpr (dMet isLst oAppend (dVar 8) (dCons (dTup (dCons (dC (.str "left")) (dCons (dOp oIx (dVar 2) (dOp oAdd (dC (.int 2)) (dOp oMod (dVar 6) (dC (.int 3))))) (dCons (dC (.str "read")) dNil)))) dNil)))
def t_l_crowd_L1  : DSt :=
  (dSeq (dExpr (dMet isLst oAppend (dVar 8) (dCons (dTup (dCons (dC (.str "came")) (dCons (dOp oIx (dVar 2) (dOp oAdd (dC (.int 2)) (dOp oMod (dVar 6) (dC (.int 3))))) (dCons (dC (.str "read")) dNil)))) dNil)))
  t_l_crowd_L1_1)
def t_l_crowd_7  : DSt :=
  (dRet (dFrz (dVar 8)))
def t_l_crowd_6  : DSt :=
  (dSeq (dIfS (dB (dOp oEq (dVar 3) (dC (.int 2)))) (dSeq (dSet 8 (dLstM (dCons (dTup (dCons (dC (.str "came")) (dCons (dOp oIx (dVar 2) (dC (.int 0))) (dCons (dC (.str "read")) dNil)))) (dCons (dTup (dCons (dC (.str "came")) (dCons (dOp oIx (dVar 2) (dC (.int 1))) (dCons (dC (.str "write")) dNil)))) dNil))))
  (dFor (dRange1 (dCons (dOp oMod (dFn m_l_cell_at (dCons (dVar 0) (dCons (dC (.int 5)) dNil))) (dOp oAdd (dC (.int 20)) (dOp oMul (dC (.int 100)) (dCall (on1 intD) (dCons (dVar 4) dNil))))) dNil)) (dgName 6) t_l_crowd_L1)) dNext)
  t_l_crowd_7)
def t_l_crowd_5  : DSt :=
  (dSeq (dSet 8 (dLstM dNil))
  t_l_crowd_6)
def t_l_crowd_4  : DSt :=
  (dSeq (dIfS (dAnd (dB (dOp oEq (dVar 3) (dC (.int 3)))) (dB (dVar 4))) (dRet (dLc (dItems (dVar 2)) 7 dYes (dTup (dCons (dC (.str "came")) (dCons (dVar 7) (dCons (dC (.str "read")) dNil)))))) dNext)
  t_l_crowd_5)
def t_l_crowd_3  : DSt :=
  (dSeq (dIfS (dB (dOp oEq (dVar 3) (dC (.int 1)))) (dSeq (dSet 5 (dOp oMul (dOp oAdd (dC (.int 2)) (dOp oMul (dC (.int 3)) (dCall (on1 intD) (dCons (dVar 4) dNil)))) (dVar 1)))
  (dRet (dLc (dRange1 (dCons (dVar 5) dNil)) 6 dYes (dTup (dCons (dC (.str "came")) (dCons (dOp oIx (dVar 2) (dVar 6)) (dCons (dFn m_l_wish_by (dCons (dOp oDiv (dFn m_l_cell_at (dCons (dVar 0) (dCons (dC (.int 5)) dNil))) (dOp oAdd (dVar 6) (dC (.int 1)))) dNil)) dNil))))))) dNext)
  t_l_crowd_4)
def t_l_crowd_2  : DSt :=
  (dSeq (dSet 4 (dOp oEq (dOp oMod (dOp oDiv (dFn m_l_cell_at (dCons (dVar 0) (dCons (dC (.int 4)) dNil))) (dC (.int 8))) (dC (.int 3))) (dC (.int 1))))
  t_l_crowd_3)
def t_l_crowd_1  : DSt :=
  (dSeq (dSet 3 (dOp oMod (dFn m_l_cell_at (dCons (dVar 0) (dCons (dC (.int 4)) dNil))) (dC (.int 8))))
  t_l_crowd_2)
def t_l_crowd  : DSt :=
  (dSeq (dSet 2 (dFn m_l_people (dCons (dFn m_l_cell_at (dCons (dVar 0) (dCons (dC (.int 3)) dNil))) (dCons (dC (.int 80)) dNil))))
  t_l_crowd_1)
local macro_rules | `(tactic| walk_at "un") => `(tactic| simp only [t_l_crowd_7, t_l_crowd_6, t_l_crowd_5, t_l_crowd_4, t_l_crowd_3, t_l_crowd_2, t_l_crowd_1, t_l_crowd])
def m_l_crowd : FDm := fun ds M Q _ => match ds with
  | [.scr _, .int many] => 1 ≤ many ∧ many ≤ 12 ∧ ∀ deeds : List Dd, deeds.length ≤ 300 → (∀ d ∈ deeds, nameOk d.name = true) → Q (.lst (eDs deeds)) M
  | _ => False
theorem len_l_crowd : ∀ ds M Q X, m_l_crowd ds M Q X → ds.length = 2 := fun ds M Q X h => by
  unfold m_l_crowd at h
  split at h <;> first | rfl | exact h.elim
theorem nth_any {names : List Str} {i : Int} (h0 : 0 ≤ i) (h1 : i < names.length) : ∃ z ∈ names, nth (names.map D.str) i = some (.str z) := by
  obtain ⟨n, rfl⟩ := Int.eq_ofNat_of_zero_le h0
  exact nth_names (names := names) (k := n) (by omega)
def nm (names : List Str) (k : Nat) : Str := (names[k]?).getD (Str.ofString "")
theorem nth_nm {names : List Str} {k : Nat} (h : k < names.length) : nth (names.map D.str) (k : Int) = some (.str (nm names k)) ∧ nm names k ∈ names := by
  unfold nm
  rw [nth_nat, List.getElem?_map, List.getElem?_eq_getElem h]
  exact ⟨rfl, List.getElem_mem h⟩
def cameD : D → D
  | .str z => eD ⟨.came, z, true⟩
  | _ => .non
theorem eDs_snoc (l : List Dd) (k : Kd) (z : Str) (b : Bool) (s : Str) (hs : s = wishS b) : eDs l ++ [D.tup [D.str k.word, D.str z, D.str s]] = eDs (l ++ [⟨k, z, b⟩]) := by
  subst hs
  unfold eDs
  rw [List.map_append]
  rfl
theorem eDs_app (a b : List Dd) : eDs (a ++ b) = eDs a ++ eDs b := List.map_append
theorem read_l_crowd : ∀ ds M Q X, m_l_crowd ds M Q X → t_l_crowd (bodyE Q X) (startD 9 ds) M := by
  intro ds M Q X h
  unfold m_l_crowd at h
  split at h
  rotate_left
  · exact h.elim
  rename_i ns many
  obtain ⟨h1, h2, h⟩ := h
  unfold t_l_crowd t_l_crowd_1 t_l_crowd_2
  walk_at "dl"
  intro names hn hz
  have e80 : (Int.toNat 80) = 80 := rfl
  rw [e80] at hn
  generalize decide (cellAt ns 4 / 8 % 3 = 1) = large
  unfold t_l_crowd_3
  walk_at "dl"
  have r5 : t_l_crowd_5 (bodyE Q X) [some (.scr ns), some (.int many), some (.lst (names.map .str)), some (.int (cellAt ns 4 % 8)), some (.bl large), none, none, none, none] M := by
    unfold t_l_crowd_5
    walk_at "dl"
    intro p hp
    unfold t_l_crowd_6
    walk_at "dl"
    obtain ⟨z0, m0, e0⟩ := nth_any (names := names) (i := 0) (by decide) (by omega)
    obtain ⟨z1, m1, e1⟩ := nth_any (names := names) (i := 1) (by decide) (by omega)
    refine cond_dec (fun _ => ?_) fun _ => ?_
    · rw [e0, el_some, e1, el_some]
      walk_at "dl"
      intro p2 hp2
      have c1 : CMul 100 (cond large 1 0) := .inl ⟨by decide, by decide⟩
      have pos : 0 < 20 + 100 * (cond large (1 : Int) 0) := by cases large <;> decide
      have top : 20 + 100 * (cond large (1 : Int) 0) ≤ 120 := by cases large <;> decide
      have g1 := Int.emod_nonneg (cellAt ns 5) (Int.ne_of_gt pos)
      have g2 := Int.emod_lt_of_pos (cellAt ns 5) pos
      refine ⟨c1, pos, by omega, by omega, ?_⟩
      refine ⟨fun k δ M' => (∃ l : List Dd, l.length = 2 + 2 * k ∧ (∀ d ∈ l, nameOk d.name = true) ∧ M' = (M.set p (.lst [])).set p2 (.lst (eDs l))) ∧ ∃ o : Option D, δ = [some (.scr ns), some (.int many), some (.lst (names.map .str)), some (.int (cellAt ns 4 % 8)), some (.bl large), none, o, none, some (.obj p2)],
        ⟨⟨[⟨.came, z0, true⟩, ⟨.came, z1, false⟩], rfl, ?_, ?_⟩, _, rfl⟩, ?_, ?_⟩
      · intro d hd
        simp only [List.mem_cons, List.not_mem_nil, or_false] at hd
        rcases hd with rfl | rfl
        · exact hz _ m0
        · exact hz _ m1
      · unfold eDs eD
        rw [List.map_cons, List.map_cons, List.map_nil]
        simp only
        rw [wishS_t, wishS_f]
        rfl
      · rintro k x δ M' hx ⟨⟨l, hl, hd, rfl⟩, o, rfl⟩
        refine ⟨trivial, ?_⟩
        obtain ⟨hk, rfl⟩ := rangeD_get hx
        obtain ⟨z, mz, ez⟩ := nth_any (names := names) (i := 2 + (k : Int) % 3) (by omega) (by omega)
        unfold t_l_crowd_L1 t_l_crowd_L1_1
        walk_at "dl"
        rw [ez, el_some]
        walk_at "dl"
        have q1 : (eDs l).length = l.length := List.length_map _
        have w1 : eDs l ++ [D.tup [D.str (Str.ofString "came"), D.str z, D.str (Str.ofString "read")]] = eDs (l ++ [⟨.came, z, true⟩]) := eDs_snoc l .came z true _ wishS_t.symm
        rw [w1]
        have w2 : eDs (l ++ [⟨.came, z, true⟩]) ++ [D.tup [D.str (Str.ofString "left"), D.str z, D.str (Str.ofString "read")]] = eDs (l ++ [⟨.came, z, true⟩] ++ [⟨.left, z, true⟩]) := eDs_snoc (l ++ [⟨.came, z, true⟩]) .left z true _ wishS_t.symm
        have q2 : (eDs (l ++ [⟨.came, z, true⟩])).length = l.length + 1 := by unfold eDs; rw [List.length_map, List.length_append]; rfl
        refine ⟨by rw [q1, sizeLine_eq]; omega, ?_⟩
        walk_at "dl"
        rw [w2]
        refine ⟨by rw [q2, sizeLine_eq]; omega, ⟨_, ?_, ?_, rfl⟩, _, rfl⟩
        · simp only [List.length_append, List.length_singleton]
          omega
        · intro d hd2
          simp only [List.mem_append, List.mem_singleton] at hd2
          rcases hd2 with (hd2 | rfl) | rfl
          · exact hd d hd2
          · exact hz z mz
          · exact hz z mz
      · rintro δ M' ⟨⟨l, hl, hd, rfl⟩, o, rfl⟩
        refine ⟨trivial, ?_⟩
        rw [rangeD_len] at hl
        unfold t_l_crowd_7
        walk_at "dl"
        rw [Mem.del_set hp2]
        exact ⟨M, Mem.sub_set hp, h l (by omega) hd⟩
    · unfold t_l_crowd_7
      walk_at "dl"
      rw [Mem.del_set hp]
      exact retD_of (h [] (by decide) (by intro d hd; cases hd))
  have r4 : t_l_crowd_4 (bodyE Q X) [some (.scr ns), some (.int many), some (.lst (names.map .str)), some (.int (cellAt ns 4 % 8)), some (.bl large), none, none, none, none] M := by
    unfold t_l_crowd_4
    walk_at "dl"
    refine cond_dec (fun _ => cond_of (fun _ => ?_) fun _ => r5) fun _ => r5
    refine lc_map cameD (fun x hx M1 hs Qd q => ?_) ?_
    · obtain ⟨y, hy, rfl⟩ := List.mem_map.mp hx
      walk_at "dl"
      have e : cameD (.str y) = D.tup [D.str (Str.ofString "came"), D.str y, D.str (Str.ofString "read")] := by
        unfold cameD eD
        simp only
        rw [wishS_t]
        rfl
      rw [← e]
      exact q
    · have e : (names.map D.str).map cameD = eDs (names.map fun z => ⟨.came, z, true⟩) := by
        unfold eDs
        rw [List.map_map, List.map_map]
        exact List.map_congr_left fun _ _ => rfl
      rw [e]
      refine retD_of (h _ (by rw [List.length_map]; omega) fun d hd => ?_)
      obtain ⟨z, hzm, rfl⟩ := List.mem_map.mp hd
      exact hz z hzm
  refine cond_dec (fun _ => ?_) fun _ => r4
  have lo : 2 ≤ (2 + 3 * (cond large (1 : Int) 0)) ∧ (2 + 3 * (cond large (1 : Int) 0)) ≤ 5 := by cases large <;> decide
  have mul : 0 ≤ (2 + 3 * (cond large (1 : Int) 0)) * many ∧ (2 + 3 * (cond large (1 : Int) 0)) * many ≤ 60 := by
    cases large
    · simp only [cond_false]; omega
    · simp only [cond_true]; omega
  refine ⟨.inl ⟨by decide, by decide⟩, .inl ⟨by omega, by omega⟩, by omega, by omega, ?_⟩
  refine lc_rangeD (fun k => eD ⟨.came, nm names k, !decide (cellAt ns 5 / ((k : Int) + 1) % 3 = 0)⟩) (fun k hk M1 hs Qd q => ?_) ?_
  · obtain ⟨e1, _⟩ := nth_nm (names := names) (k := k) (by omega)
    walk_at "dl"
    rw [e1, el_some]
    walk_at "dl"
    exact ⟨by omega, q⟩
  · have e : (List.range ((2 + 3 * (cond large (1 : Int) 0)) * many).toNat).map (fun k => eD ⟨.came, nm names k, !decide (cellAt ns 5 / ((k : Int) + 1) % 3 = 0)⟩) = eDs ((List.range ((2 + 3 * (cond large (1 : Int) 0)) * many).toNat).map fun k => ⟨.came, nm names k, !decide (cellAt ns 5 / ((k : Int) + 1) % 3 = 0)⟩) := by
      unfold eDs
      rw [List.map_map]
      rfl
    rw [e]
    refine retD_of (h _ (by rw [List.length_map, List.length_range]; omega) fun d hd => ?_)
    obtain ⟨k, hk, rfl⟩ := List.mem_map.mp hd
    have hk := List.mem_range.mp hk
    exact hz _ (nth_nm (names := names) (k := k) (by omega)).2
-- SIMP m_l_crowd

local macro_rules | `(tactic| walk_at "dl") => `(tactic| try simp -implicitDefEqProofs only [DL.dNext, DL.dSeq, DL.dExpr, DL.dRet, DL.dIfS, DL.dSet, DL.dCont, DL.dRaise, DL.dFor, DL.dgName, DL.dgPair, DL.dTry, DL.dFn, DL.dMth, DL.dMk, DL.dFld, DL.dFldS, DL.dPut, DL.dVar, DL.slot, DL.dC, DL.dOp, DL.dUn, DL.oSub, DL.oMul, DL.oDiv, DL.oMod, DL.oPow, DL.oLt, DL.oLe, DL.oGt, DL.oGe, DL.oEq, DL.oNe, DL.oIn, DL.oNotIn, DL.dB, DL.dIsN, DL.dChain, DL.dAnd, DL.dOr, DL.dNot, DL.dAndV, DL.dOrV, DL.dNotV, DL.dIf, DL.dNil, DL.dCons, DL.few, DL.dLst, DL.dTup, DL.dLstM, DL.dFrz, DL.dPairs, DL.dDisp, DL.dDic0, DL.dSl, DL.dNoPart, DL.dCall, DL.dMet0L, DL.dMet, DL.dItems, DL.dRange1, DL.dEnum, DL.dLcM, DL.dwipe, DL.startD, DL.dNever, DL.el_some, DL.elL_lst, DL.elD_dic, DL.elI_ins, DL.res_non, DL.res_bl, DL.res_int, DL.res_str, DL.res_lst, DL.res_tupE, DL.res_dic, DL.res_scr, DL.res_ty, DL.oAdd_eq, DL.addR_int, DL.addR_str, DL.addR_lst, DL.addR_tup, DL.oAddM_eq, DL.addMR_lst, DL.oInt_eq, DL.intR_int, DL.oInt0_eq, DL.int0R_int, DL.oNeg_eq, DL.negR_int, DL.oEqN_eq, DL.eqR_some, DL.eqR_none, DL.eqS_non_non, DL.eqS_non_int, DL.eqS_non_bl, DL.eqS_non_str, DL.eqS_non_lst, DL.eqS_non_tup, DL.eqS_int_non, DL.eqS_int_int, DL.eqS_int_bl, DL.eqS_int_str, DL.eqS_int_lst, DL.eqS_int_tup, DL.eqS_bl_non, DL.eqS_bl_int, DL.eqS_bl_bl, DL.eqS_bl_str, DL.eqS_bl_lst, DL.eqS_bl_tup, DL.eqS_str_non, DL.eqS_str_int, DL.eqS_str_bl, DL.eqS_str_str, DL.eqS_str_lst, DL.eqS_str_tup, DL.eqS_lst_non, DL.eqS_lst_int, DL.eqS_lst_bl, DL.eqS_lst_str, DL.eqS_lst_lst, DL.eqS_lst_tup, DL.eqS_tup_non, DL.eqS_tup_int, DL.eqS_tup_bl, DL.eqS_tup_str, DL.eqS_tup_lst, DL.eqS_tup_tup, DL.eqS_obj_non, DL.eqS_non_obj, DL.eqS_obj_int, DL.eqS_int_obj, DL.eqS_obj_bl, DL.eqS_bl_obj, DL.eqS_obj_str, DL.eqS_str_obj, DL.eqS_obj_lst, DL.eqS_lst_obj, DL.eqS_obj_tup, DL.eqS_tup_obj, DL.eqS_obj_obj, DL.oInN_eq, DL.inR_lst, DL.inR_tup, DL.inR_str, DL.flatD_non, DL.flatD_bl, DL.flatD_int, DL.flatD_str, DL.asB_bl, DL.isN_non, DL.isN_bl, DL.isN_int, DL.isN_str, DL.isN_lst, DL.isN_tup, DL.isN_dic, DL.isN_scr, DL.isN_ty, DL.isN_obj, DL.frz_non, DL.frz_bl, DL.frz_int, DL.frz_str, DL.frz_lst, DL.frz_tup, DL.frz_dic, DL.frz_scr, DL.frz_ty, DL.oIx_eq, DL.ixR_lst, DL.ixR_tup, DL.ixR_scr, DL.ixR_str, DL.ixR_dic, DL.nth_0, DL.nth_1, DL.nth_2, DL.nth_3, DL.oSl_eq, DL.slR_lst, DL.slR_tup, DL.slR_str, DL.dPart_eq, DL.partR_int, DL.on1_cons, DL.on2_cons, DL.lenD_lst, DL.lenD_tup, DL.lenD_scr, DL.lenD_str, DL.intD_int, DL.intD_bl, DL.strD_int, DL.int2_int, DL.listM_lst, DL.listF_lst, DL.listM_tup, DL.listF_tup, DL.dictM_dic, DL.isiD_ty, DL.oAppend_obj, DL.oInsert_obj, DL.oPop_obj, DL.oPopAt_obj, DL.isLst_eq, DL.isLstR_lst, DL.isStr_str, DL.oSplit_str, DL.oJoin_str, DL.itemsOf_lst, DL.itemsOf_tup, DL.itemsOf_str, DL.rng1_int, DL.enumOf_lst, DL.two_tup, DL.insIs_obj, DL.getFld_obj, DL.setFld_obj, DL.putDic_obj, DL.isB_str_non, DL.isB_str_bl, DL.isB_str_int, DL.isB_str_str, DL.isB_str_lst, DL.isB_str_tup, DL.isB_str_dic, DL.isB_int_non, DL.isB_int_bl, DL.isB_int_int, DL.isB_int_str, DL.isB_int_lst, DL.isB_int_tup, DL.isB_int_dic, DL.isB_bool_non, DL.isB_bool_bl, DL.isB_bool_int, DL.isB_bool_str, DL.isB_bool_lst, DL.isB_bool_tup, DL.isB_bool_dic, DL.isB_list_non, DL.isB_list_bl, DL.isB_list_int, DL.isB_list_str, DL.isB_list_lst, DL.isB_list_tup, DL.isB_list_dic, DL.isB_tuple_non, DL.isB_tuple_bl, DL.isB_tuple_int, DL.isB_tuple_str, DL.isB_tuple_lst, DL.isB_tuple_tup, DL.isB_tuple_dic, Bool.cond_true, Bool.cond_false, L2.CDiv, Int.reduceLT, Int.reduceLE, true_and, and_true, cond_true, cond_false, List.map_cons, List.map_nil, List.set_cons_zero, List.set_cons_succ, List.set_nil, DL.cpow_109, DL.pow_109, DL.frz_set_lst, DL.frz_set_dic, Bool.not_true, Bool.not_false, DL.itemsOf_obj, DL.enumOf_obj, DL.all_still, okD_non, okD_bl, okD_int, okD_str, okD_lst, okD_tup, okD_dic, res_set_lst, Mem.set_same, Mem.set_set, lk_seats, lk_patience, lk_reading, lk_alone, lk_asking, lk_waiting, lk_rows, no_is_inside, no_is_waiting, no_look, no_come, no_leave, no_ask, no_ease, no_settled, no_begun, no_readers, no_writer, no_asker, no_line, no_passed, no_journal, dp_reading, dp_reading0, dp_reading1, dp_alone, dp_alone0, dp_asking, dp_asking0, dp_waiting, dp_rows, few_flds, eNames, isN_optS, res_optS, optS_some, optS_none, Option.isNone_none, Option.isNone_some, ln_queue, ln_reading, ln_alone, ln_asked, dn_queue, dn_reading, dn_reading0, dn_reading1, dn_aloneO, dn_alone, dn_alone0, dn_asked, dn_asked0, few_eN, nod_eN, eqS_optS2, m_l_cell_at, Int.reduceLE, m_l_number_by, m_l_seats, m_l_patience, m_l_people, m_l_names, m_l_wish_by, m_l_crowd])
/-! ### _law_fresh():  -/
def t_l_fresh  : DSt :=
  (dRet (dFrz (dDisp [("queue", (dLst dNil)), ("reading", (dLst dNil)), ("alone", (dC .non)), ("asked", (dC .non))])))
local macro_rules | `(tactic| walk_at "un") => `(tactic| simp only [t_l_fresh])
def m_l_fresh : FDm := fun ds M Q _ => ds = [] ∧ ∀ s p l, Q (.dic (eN ⟨s, p, [], none, none, [], l⟩)) M
theorem len_l_fresh : ∀ ds M Q X, m_l_fresh ds M Q X → ds.length = 0 := fun ds M Q X ⟨h, _⟩ => by subst h; rfl
theorem fresh_nd : (([("queue", D.lst []), ("reading", D.lst []), ("alone", D.non), ("asked", D.non)] : List (Str × D)).map (·.1)).Nodup := by
  simp only [List.map_cons, List.map_nil]
  decide +kernel
theorem read_l_fresh : ∀ ds M Q X, m_l_fresh ds M Q X → t_l_fresh (bodyE Q X) (startD 0 ds) M := by
  rintro ds M Q X ⟨rfl, h⟩
  unfold t_l_fresh
  walk_at "dl"
  intro p hp
  refine ⟨fresh_nd, ?_⟩
  rw [Mem.del_set hp]
  exact retD_of (h 0 0 [])

/-! ### _law_deed_by(_law_cell, _law_people_here, _law_inside_here, _law_waits): 0 _law_cell, 1 _law_people_here, 2 _law_inside_here, 3 _law_waits, 4 _law_who, 5 _law_way, 6 _law_wish -/
def t_l_deed_by_6  : DSt :=
  (dRet (dTup (dCons (dOp oIx (dLst (dCons (dC (.str "left")) (dCons (dC (.str "left")) (dCons (dC (.str "left")) (dCons (dC (.str "left")) (dCons (dC (.str "left")) (dCons (dC (.str "came")) (dCons (dC (.str "asked")) (dCons (dC (.str "eased")) dNil))))))))) (dVar 5)) (dCons (dVar 4) (dCons (dVar 6) dNil)))))
def t_l_deed_by_5  : DSt :=
  (dSeq (dIfS (dAnd (dB (dOp oLt (dVar 5) (dC (.int 4)))) (dB (dOp oNe (dVar 2) (dLst dNil)))) (dRet (dTup (dCons (dC (.str "left")) (dCons (dOp oIx (dVar 2) (dOp oMod (dOp oDiv (dVar 0) (dC (.int 8))) (dCall (on1 lenD) (dCons (dVar 2) dNil)))) (dCons (dVar 6) dNil))))) dNext)
  t_l_deed_by_6)
def t_l_deed_by_4  : DSt :=
  (dSeq (dIfS (dB (dOp oNotIn (dVar 4) (dVar 3))) (dRet (dTup (dCons (dOp oIx (dLst (dCons (dC (.str "came")) (dCons (dC (.str "came")) (dCons (dC (.str "came")) (dCons (dC (.str "came")) (dCons (dC (.str "came")) (dCons (dC (.str "left")) (dCons (dC (.str "asked")) (dCons (dC (.str "eased")) dNil))))))))) (dVar 5)) (dCons (dVar 4) (dCons (dVar 6) dNil))))) dNext)
  t_l_deed_by_5)
def t_l_deed_by_3  : DSt :=
  (dSeq (dIfS (dB (dOp oIn (dVar 4) (dVar 2))) (dRet (dTup (dCons (dOp oIx (dLst (dCons (dC (.str "left")) (dCons (dC (.str "left")) (dCons (dC (.str "left")) (dCons (dC (.str "left")) (dCons (dC (.str "asked")) (dCons (dC (.str "asked")) (dCons (dC (.str "eased")) (dCons (dC (.str "came")) dNil))))))))) (dVar 5)) (dCons (dVar 4) (dCons (dVar 6) dNil))))) dNext)
  t_l_deed_by_4)
def t_l_deed_by_2  : DSt :=
  (dSeq (dSet 6 (dFn m_l_wish_by (dCons (dOp oDiv (dVar 0) (dOp oMul (dC (.int 8)) (dCall (on1 lenD) (dCons (dVar 1) dNil)))) dNil)))
  t_l_deed_by_3)
def t_l_deed_by_1  : DSt :=
  (dSeq (dSet 5 (dOp oMod (dVar 0) (dC (.int 8))))
  t_l_deed_by_2)
def t_l_deed_by  : DSt :=
  (dSeq (dSet 4 (dOp oIx (dVar 1) (dOp oMod (dOp oDiv (dVar 0) (dC (.int 8))) (dCall (on1 lenD) (dCons (dVar 1) dNil)))))
  t_l_deed_by_1)
local macro_rules | `(tactic| walk_at "un") => `(tactic| simp only [t_l_deed_by_6, t_l_deed_by_5, t_l_deed_by_4, t_l_deed_by_3, t_l_deed_by_2, t_l_deed_by_1, t_l_deed_by])
def m_l_deed_by : FDm := fun ds M Q _ => ∃ (c : Int) (names inside waits : List Str), ds = [.int c, eNames names, eNames inside, eNames waits] ∧ 1 ≤ names.length ∧ names.length ≤ 1000 ∧ inside.length ≤ 1000000 ∧ (∀ z ∈ names, nameOk z = true) ∧ (∀ z ∈ inside, nameOk z = true) ∧
  ∀ d : Dd, nameOk d.name = true → Q (eD d) M
theorem len_l_deed_by : ∀ ds M Q X, m_l_deed_by ds M Q X → ds.length = 4 := fun ds M Q X ⟨_, _, _, _, h, _⟩ => by subst h; rfl
theorem deed_word (ks : List Kd) (x : Int) (h : ks.length = 8) : ∃ k : Kd, nth (ks.map fun k => D.str k.word) (x % 8) = some (.str k.word) := by
  obtain ⟨d, hd, e⟩ := nth_mod (ks.map fun k => D.str k.word) x 8 (by rw [List.length_map]; exact h) (by decide)
  obtain ⟨k, _, rfl⟩ := List.mem_map.mp hd
  exact ⟨k, e⟩
theorem read_l_deed_by : ∀ ds M Q X, m_l_deed_by ds M Q X → t_l_deed_by (bodyE Q X) (startD 7 ds) M := by
  rintro ds M Q X ⟨c, names, inside, waits, rfl, h1, h2, h3, hn, hi, h⟩
  unfold t_l_deed_by t_l_deed_by_1
  walk_at "dl"
  have hl : (names.map D.str).length = names.length := List.length_map _
  rw [hl]
  refine ⟨by omega, ?_⟩
  obtain ⟨d, hd, e⟩ := nth_mod (names.map D.str) (c / 8) names.length hl (by omega)
  rw [e, el_some]
  obtain ⟨z, hz, rfl⟩ := List.mem_map.mp hd
  have hz := hn z hz
  unfold t_l_deed_by_2
  walk_at "dl"
  rw [hl]
  refine ⟨.inl ⟨by decide, by decide⟩, by omega, ?_⟩
  generalize (!decide (c / (8 * (names.length : Int)) % 3 = 0)) = b
  have fin : ∀ (k : Kd), retD Q (.tup [.str k.word, .str z, .str (wishS b)]) M := fun k => retD_of (h ⟨k, z, b⟩ hz)
  unfold t_l_deed_by_3
  walk_at "dl"
  refine ⟨flatD_names _, ?_⟩
  rw [inD_names]
  refine cond_dec (fun hin => ?_) fun hin => ?_
  · obtain ⟨k, ek⟩ := deed_word [.left, .left, .left, .left, .asked, .asked, .eased, .came] c rfl
    have ek : nth [D.str (Str.ofString "left"), D.str (Str.ofString "left"), D.str (Str.ofString "left"), D.str (Str.ofString "left"), D.str (Str.ofString "asked"), D.str (Str.ofString "asked"), D.str (Str.ofString "eased"), D.str (Str.ofString "came")] (c % 8) = _ := ek
    rw [ek, el_some]
    exact fin k
  unfold t_l_deed_by_4
  walk_at "dl"
  refine ⟨flatD_names _, ?_⟩
  rw [inD_names]
  have last : t_l_deed_by_6 (bodyE Q X) [some (.int c), some (.lst (names.map .str)), some (.lst (inside.map .str)), some (.lst (waits.map .str)), some (.str z), some (.int (c % 8)), some (.str (wishS b))] M := by
    unfold t_l_deed_by_6
    walk_at "dl"
    obtain ⟨k, ek⟩ := deed_word [.left, .left, .left, .left, .left, .came, .asked, .eased] c rfl
    have ek : nth [D.str (Str.ofString "left"), D.str (Str.ofString "left"), D.str (Str.ofString "left"), D.str (Str.ofString "left"), D.str (Str.ofString "left"), D.str (Str.ofString "came"), D.str (Str.ofString "asked"), D.str (Str.ofString "eased")] (c % 8) = _ := ek
    rw [ek, el_some]
    exact fin k
  refine cond_of (fun _ => ?_) fun _ => ?_
  · obtain ⟨k, ek⟩ := deed_word [.came, .came, .came, .came, .came, .left, .asked, .eased] c rfl
    have ek : nth [D.str (Str.ofString "came"), D.str (Str.ofString "came"), D.str (Str.ofString "came"), D.str (Str.ofString "came"), D.str (Str.ofString "came"), D.str (Str.ofString "left"), D.str (Str.ofString "asked"), D.str (Str.ofString "eased")] (c % 8) = _ := ek
    rw [ek, el_some]
    exact fin k
  unfold t_l_deed_by_5
  walk_at "dl"
  refine cond_dec (fun _ => ?_) fun _ => last
  refine ⟨flat_names _, rfl, ?_⟩
  rw [eqv_nil]
  cases inside with
  | nil => exact last
  | cons y ys =>
    show cond true _ _
    rw [cond_true]
    have hl : ((y :: ys).map D.str).length = (y :: ys).length := List.length_map _
    rw [hl]
    have hp : 0 < (y :: ys).length := Nat.zero_lt_succ _
    refine ⟨by omega, ?_⟩
    obtain ⟨d, hd, e⟩ := nth_mod ((y :: ys).map D.str) (c / 8) (y :: ys).length hl hp
    rw [e, el_some]
    obtain ⟨x, hx, rfl⟩ := List.mem_map.mp hd
    exact retD_of (h ⟨.left, x, b⟩ (hi x hx))

/-! ### _law_inside(_law_now): 0 _law_now -/
def t_l_inside_1  : DSt :=
  (dRet (dLst (dCons (dOp oIx (dVar 0) (dC (.str "alone"))) dNil)))
def t_l_inside  : DSt :=
  (dSeq (dIfS (dB (dIsN false (dOp oIx (dVar 0) (dC (.str "alone"))))) (dRet (dOp oIx (dVar 0) (dC (.str "reading")))) dNext)
  t_l_inside_1)
local macro_rules | `(tactic| walk_at "un") => `(tactic| simp only [t_l_inside_1, t_l_inside])
def m_l_inside : FDm := fun ds M Q _ => ∃ r : Rm, ds = [.dic (eN r)] ∧ ∀ l : List Str, l.length ≤ r.reading.length + 1 → (∀ z ∈ l, z ∈ inNames r) → Q (.lst (l.map .str)) M
theorem len_l_inside : ∀ ds M Q X, m_l_inside ds M Q X → ds.length = 1 := fun ds M Q X ⟨_, h, _⟩ => by subst h; rfl
theorem read_l_inside : ∀ ds M Q X, m_l_inside ds M Q X → t_l_inside (bodyE Q X) (startD 1 ds) M := by
  rintro ds M Q X ⟨r, rfl, h⟩
  unfold t_l_inside
  walk_at "dl"
  unfold t_l_inside_1
  walk_at "dl"
  cases hal : r.alone with
  | none =>
    show cond true _ _
    rw [cond_true]
    exact retD_of (h _ (by omega) fun z hz => List.mem_append.mpr (.inl hz))
  | some y =>
    show cond false _ _
    rw [cond_false]
    exact retD_of (h [y] (by simp) fun z hz => List.mem_append.mpr (.inr (by rw [hal, List.mem_singleton.mp hz]; simp)))

/-! ### _law_known(_law_now, _law_who): 0 _law_now, 1 _law_who, 2 _law_one -/
def t_l_known  : DSt :=
  (dRet (dOrV (dOp oIn (dVar 1) (dOp oIx (dVar 0) (dC (.str "reading")))) (dOrV (dOp oEq (dOp oIx (dVar 0) (dC (.str "alone"))) (dVar 1)) (dOp oIn (dVar 1) (dLc (dItems (dOp oIx (dVar 0) (dC (.str "queue")))) 2 dYes (dOp oIx (dVar 2) (dC (.int 0))))))))
local macro_rules | `(tactic| walk_at "un") => `(tactic| simp only [t_l_known])
def m_l_known : FDm := fun ds M Q _ => ∃ (r : Rm) (z : Str), ds = [.dic (eN r), .str z] ∧ Q (.bl (insideB r z || waitsB r z)) M
theorem len_l_known : ∀ ds M Q X, m_l_known ds M Q X → ds.length = 2 := fun ds M Q X ⟨_, _, h, _⟩ => by subst h; rfl
theorem read_l_known : ∀ ds M Q X, m_l_known ds M Q X → t_l_known (bodyE Q X) (startD 3 ds) M := by
  rintro ds M Q X ⟨r, z, rfl, h⟩
  unfold t_l_known
  walk_at "dl"
  refine ⟨flatD_names _, ?_⟩
  rw [inD_names]
  unfold insideB at h
  refine cond_dec (fun e => ?_) fun e => ?_
  · rw [decide_eq_true e, Bool.true_or, Bool.true_or] at h
    exact retD_of h
  · rw [decide_eq_false e, Bool.false_or] at h
    rw [eqS_optS]
    walk_at "dl"
    refine cond_dec (fun e => ?_) fun e => ?_
    · rw [decide_eq_true e, Bool.true_or] at h
      exact retD_of h
    · rw [decide_eq_false e, Bool.false_or] at h
      refine lc_map fst (fun x hx M1 hs Qd q => ?_) ?_
      · unfold eLine at hx
        obtain ⟨w, hw, rfl⟩ := List.mem_map.mp hx
        unfold eW
        walk_at "dl"
        exact q
      · rw [fst_eLine]
        walk_at "dl"
        refine ⟨flatD_names _, ?_⟩
        rw [inD_names]
        exact retD_of h

/-! ### _law_refused(_law_now, _law_deed): 0 _law_now, 1 _law_deed -/
def t_l_refused_3  : DSt :=
  (dRet (dOrV (dIsN false (dOp oIx (dVar 0) (dC (.str "alone")))) (dOp oNe (dOp oIx (dVar 0) (dC (.str "alone"))) (dOp oIx (dVar 1) (dC (.int 1))))))
def t_l_refused_2  : DSt :=
  (dSeq (dIfS (dB (dOp oEq (dOp oIx (dVar 1) (dC (.int 0))) (dC (.str "asked")))) (dRet (dOrV (dOp oNotIn (dOp oIx (dVar 1) (dC (.int 1))) (dOp oIx (dVar 0) (dC (.str "reading")))) (dIsN true (dOp oIx (dVar 0) (dC (.str "asked")))))) dNext)
  t_l_refused_3)
def t_l_refused_1  : DSt :=
  (dSeq (dIfS (dB (dOp oEq (dOp oIx (dVar 1) (dC (.int 0))) (dC (.str "left")))) (dRet (dNotV (dFn m_l_known (dCons (dVar 0) (dCons (dOp oIx (dVar 1) (dC (.int 1))) dNil))))) dNext)
  t_l_refused_2)
def t_l_refused  : DSt :=
  (dSeq (dIfS (dB (dOp oEq (dOp oIx (dVar 1) (dC (.int 0))) (dC (.str "came")))) (dRet (dFn m_l_known (dCons (dVar 0) (dCons (dOp oIx (dVar 1) (dC (.int 1))) dNil)))) dNext)
  t_l_refused_1)
local macro_rules | `(tactic| walk_at "un") => `(tactic| simp only [t_l_refused_3, t_l_refused_2, t_l_refused_1, t_l_refused])
def m_l_refused : FDm := fun ds M Q _ => ∃ (r : Rm) (d : Dd) (l : List D), ds = [.dic (eN r), .tup l] ∧ isDeed d l ∧ Q (.bl (refB r d)) M
theorem len_l_refused : ∀ ds M Q X, m_l_refused ds M Q X → ds.length = 2 := fun ds M Q X ⟨_, _, _, h, _⟩ => by subst h; rfl
theorem read_l_refused : ∀ ds M Q X, m_l_refused ds M Q X → t_l_refused (bodyE Q X) (startD 2 ds) M := by
  rintro ds M Q X ⟨r, ⟨k, z, b⟩, l, rfl, ⟨h0, h1, h2⟩, h⟩
  unfold t_l_refused
  walk_at "dl"
  rw [h0, h1, el_some]
  walk_at "dl"
  rw [kw_came]
  unfold t_l_refused_1
  walk_at "dl"
  rw [h0, h1, el_some]
  walk_at "dl"
  rw [kw_left]
  unfold t_l_refused_2
  walk_at "dl"
  rw [h0, h1, el_some]
  walk_at "dl"
  rw [kw_asked]
  unfold t_l_refused_3
  walk_at "dl"
  rw [h1, el_some]
  walk_at "dl"
  cases k with
  | came => exact ⟨r, z, rfl, retD_of h⟩
  | left =>
    show cond false _ (cond true _ _)
    rw [cond_false, cond_true]
    refine ⟨r, z, rfl, ?_⟩
    walk_at "dl"
    exact retD_of h
  | asked =>
    show cond false _ (cond false _ (cond true _ _))
    rw [cond_false, cond_false, cond_true]
    refine ⟨flatD_names _, ?_⟩
    rw [inD_names]
    have h : Q (.bl (!decide (z ∈ r.reading) || r.asking.isSome)) M := h
    refine cond_of (fun e => ?_) fun e => ?_
    · rw [e, Bool.true_or] at h
      exact retD_of h
    · rw [e, Bool.false_or] at h
      have hb : (!r.asking.isNone) = r.asking.isSome := by cases r.asking <;> rfl
      rw [hb]
      exact retD_of h
  | eased =>
    have h : Q (.bl (!decide (r.alone = some z))) M := h
    show cond false _ (cond false _ (cond false _ _))
    rw [cond_false, cond_false, cond_false]
    rw [eqS_optS]
    walk_at "dl"
    cases hal : r.alone with
    | none =>
      rw [hal, decide_eq_false (by simp)] at h
      exact retD_of h
    | some y =>
      rw [hal] at h
      show cond false _ _
      rw [cond_false]
      exact retD_of h

/-! ### _law_deed_done(_law_now, _law_deed): 0 _law_now, 1 _law_deed, 2 _law_new, 3 _law_who, 4 _law_one -/
def t_l_deed_done_3  : DSt :=
  (dRet (dFrz (dVar 2)))
def t_l_deed_done_2  : DSt :=
  (dSeq (dIfS (dB (dOp oEq (dOp oIx (dVar 1) (dC (.int 0))) (dC (.str "came")))) (dPut (dVar 2) (dC (.str "queue")) (dOp oAdd (dOp oIx (dVar 0) (dC (.str "queue"))) (dLst (dCons (dTup (dCons (dVar 3) (dCons (dOp oIx (dVar 1) (dC (.int 2))) (dCons (dC (.int 0)) dNil)))) dNil)))) (dIfS (dB (dOp oEq (dOp oIx (dVar 1) (dC (.int 0))) (dC (.str "asked")))) (dPut (dVar 2) (dC (.str "asked")) (dVar 3)) (dIfS (dB (dOp oEq (dOp oIx (dVar 1) (dC (.int 0))) (dC (.str "eased")))) (dSeq (dPut (dVar 2) (dC (.str "alone")) (dC .non))
  (dPut (dVar 2) (dC (.str "reading")) (dLst (dCons (dVar 3) dNil)))) (dSeq (dPut (dVar 2) (dC (.str "queue")) (dLc (dItems (dOp oIx (dVar 0) (dC (.str "queue")))) 4 (dB (dOp oNe (dOp oIx (dVar 4) (dC (.int 0))) (dVar 3))) (dVar 4)))
  (dSeq (dPut (dVar 2) (dC (.str "reading")) (dLc (dItems (dOp oIx (dVar 0) (dC (.str "reading")))) 4 (dB (dOp oNe (dVar 4) (dVar 3))) (dVar 4)))
  (dSeq (dIfS (dB (dOp oEq (dOp oIx (dVar 0) (dC (.str "alone"))) (dVar 3))) (dPut (dVar 2) (dC (.str "alone")) (dC .non)) dNext)
  (dIfS (dB (dOp oEq (dOp oIx (dVar 0) (dC (.str "asked"))) (dVar 3))) (dPut (dVar 2) (dC (.str "asked")) (dC .non)) dNext)))))))
  t_l_deed_done_3)
def t_l_deed_done_1  : DSt :=
  (dSeq (dSet 3 (dOp oIx (dVar 1) (dC (.int 1))))
  t_l_deed_done_2)
def t_l_deed_done  : DSt :=
  (dSeq (dSet 2 (dCall (on1 dictM) (dCons (dVar 0) dNil)))
  t_l_deed_done_1)
local macro_rules | `(tactic| walk_at "un") => `(tactic| simp only [t_l_deed_done_3, t_l_deed_done_2, t_l_deed_done_1, t_l_deed_done])
def m_l_deed_done : FDm := fun ds M Q _ => ∃ (r : Rm) (d : Dd) (l : List D), ds = [.dic (eN r), .tup l] ∧ isDeed d l ∧ r.waiting.length ≤ 1000000 ∧ Q (.dic (eN (preR r d))) M
theorem len_l_deed_done : ∀ ds M Q X, m_l_deed_done ds M Q X → ds.length = 2 := fun ds M Q X ⟨_, _, _, h, _⟩ => by subst h; rfl
theorem read_l_deed_done : ∀ ds M Q X, m_l_deed_done ds M Q X → t_l_deed_done (bodyE Q X) (startD 5 ds) M := by
  rintro ds M Q X ⟨r, ⟨k, z, b⟩, l, rfl, ⟨h0, h1, h2⟩, hl, h⟩
  unfold t_l_deed_done
  walk_at "dl"
  intro p hp
  unfold t_l_deed_done_1
  walk_at "dl"
  rw [h1, el_some]
  have fin : ∀ r' : Rm, eN r' = eN (preR r ⟨k, z, b⟩) → t_l_deed_done_3 (bodyE Q X) [some (.dic (eN r)), some (.tup l), some (.obj p), some (.str z), none] (M.set p (.dic (eN r'))) := fun r' e => by
    unfold t_l_deed_done_3
    walk_at "dl"
    rw [Mem.del_set hp, e]
    exact retD_of h
  unfold t_l_deed_done_2
  walk_at "dl"
  rw [h0, el_some]
  walk_at "dl"
  rw [kw_came, kw_asked, kw_eased]
  cases k with
  | came =>
    rw [h2 rfl]
    show cond true _ _
    rw [cond_true, el_some]
    have e1 : eLine r.waiting ++ [D.tup [D.str z, D.str (wishS b), D.int 0]] = eLine (r.waiting ++ [⟨z, b, 0⟩]) := by rw [eLine_app]; rfl
    walk_at "dl"
    rw [e1]
    walk_at "dl"
    refine ⟨by rw [len_eLine, sizeLine_eq]; show _ + 1 ≤ _; omega, ?_⟩
    exact fin _ rfl
  | asked =>
    show cond false _ (cond true _ _)
    rw [cond_false, cond_true]
    exact fin _ rfl
  | eased =>
    show cond false _ (cond false _ (cond true _ _))
    rw [cond_false, cond_false, cond_true]
    exact fin _ rfl
  | left =>
    show cond false _ (cond false _ (cond false _ _))
    rw [cond_false, cond_false, cond_false]
    refine lc_pure (keepW z) id (fun x hx M1 hs Qb q => ?_) (fun x hx _ M1 hs Qd q => ?_) ?_
    · unfold eLine at hx
      obtain ⟨w, hw, rfl⟩ := List.mem_map.mp hx
      unfold eW
      walk_at "dl"
      exact q
    · walk_at "dl"
      exact q
    rw [keepW_line]
    walk_at "dl"
    refine lc_pure (keepS z) id (fun x hx M1 hs Qb q => ?_) (fun x hx _ M1 hs Qd q => ?_) ?_
    · obtain ⟨y, hy, rfl⟩ := List.mem_map.mp hx
      walk_at "dl"
      exact q
    · walk_at "dl"
      exact q
    rw [keepS_names]
    walk_at "dl"
    have fin : ∀ al as, (if r.alone = some z then none else r.alone) = al → (if r.asking = some z then none else r.asking) = as → t_l_deed_done_3 (bodyE Q X) [some (.dic (eN r)), some (.tup l), some (.obj p), some (.str z), none] (M.set p (.dic (eN { r with waiting := r.waiting.filter (fun w => !decide (w.name = z)), reading := r.reading.filter (fun y => !decide (y = z)), alone := al, asking := as }))) := fun al as e1 e2 => fin _ (by
      subst e1 e2
      rfl)
    rw [eqS_optS, eqS_optS]
    walk_at "dl"
    refine cond_dec (fun e => ?_) fun e => ?_
    · walk_at "dl"
      refine cond_dec (fun e2 => ?_) fun e2 => ?_
      · exact fin _ _ (if_pos e) (if_pos e2)
      · exact fin _ _ (if_pos e) (if_neg e2)
    · refine cond_dec (fun e2 => ?_) fun e2 => ?_
      · walk_at "dl"
        exact fin _ _ (if_neg e) (if_pos e2)
      · exact fin _ _ (if_neg e) (if_neg e2)

/-! ### _law_row(_law_deed): 0 _law_deed -/
def t_l_row_1  : DSt :=
  (dRet (dTup (dCons (dOp oIx (dVar 0) (dC (.int 0))) (dCons (dOp oIx (dVar 0) (dC (.int 1))) dNil))))
def t_l_row  : DSt :=
  (dSeq (dIfS (dB (dOp oEq (dOp oIx (dVar 0) (dC (.int 0))) (dC (.str "came")))) (dRet (dTup (dCons (dOp oIx (dVar 0) (dC (.int 0))) (dCons (dOp oIx (dVar 0) (dC (.int 1))) (dCons (dOp oIx (dVar 0) (dC (.int 2))) dNil))))) dNext)
  t_l_row_1)
local macro_rules | `(tactic| walk_at "un") => `(tactic| simp only [t_l_row_1, t_l_row])
def m_l_row : FDm := fun ds M Q _ => ∃ d : Dd, ds = [eD d] ∧ Q (eR (rowOf d)) M
theorem len_l_row : ∀ ds M Q X, m_l_row ds M Q X → ds.length = 1 := fun ds M Q X ⟨_, h, _⟩ => by subst h; rfl
theorem read_l_row : ∀ ds M Q X, m_l_row ds M Q X → t_l_row (bodyE Q X) (startD 1 ds) M := by
  rintro ds M Q X ⟨⟨k, z, b⟩, rfl, h⟩
  unfold t_l_row eD
  walk_at "dl"
  rw [kw_came]
  unfold t_l_row_1
  walk_at "dl"
  cases k <;> exact retD_of h

/-! ### _law_next(_law_now, _law_seats_here, _law_patience_here): 0 _law_now, 1 _law_seats_here, 2 _law_patience_here, 3 _law_reading, 4 _law_queue, 5 _law_place -/
def t_l_next_L1_1  : DSt :=
  (dIfS (dB (dOp oGe (dOp oIx (dOp oIx (dVar 4) (dVar 5)) (dC (.int 2))) (dVar 2))) (dRet (dC .non)) dNext)
def t_l_next_L1  : DSt :=
  (dSeq (dIfS (dB (dOp oEq (dOp oIx (dOp oIx (dVar 4) (dVar 5)) (dC (.int 1))) (dC (.str "read")))) (dRet (dVar 5)) dNext)
  t_l_next_L1_1)
def t_l_next_7  : DSt :=
  (dRet (dC .non))
def t_l_next_6  : DSt :=
  (dSeq (dFor (dRange1 (dCons (dCall (on1 lenD) (dCons (dVar 4) dNil)) dNil)) (dgName 5) t_l_next_L1)
  t_l_next_7)
def t_l_next_5  : DSt :=
  (dSeq (dIfS (dB (dOp oGe (dCall (on1 lenD) (dCons (dVar 3) dNil)) (dVar 1))) (dRet (dC .non)) dNext)
  t_l_next_6)
def t_l_next_4  : DSt :=
  (dSeq (dIfS (dAnd (dB (dOp oEq (dOp oIx (dOp oIx (dVar 4) (dC (.int 0))) (dC (.int 1))) (dC (.str "write")))) (dB (dOp oEq (dVar 3) (dLst dNil)))) (dRet (dC (.int 0))) dNext)
  t_l_next_5)
def t_l_next_3  : DSt :=
  (dSeq (dIfS (dOr (dB (dOp oEq (dVar 4) (dLst dNil))) (dB (dIsN true (dOp oIx (dVar 0) (dC (.str "alone")))))) (dRet (dC .non)) dNext)
  t_l_next_4)
def t_l_next_2  : DSt :=
  (dSeq (dSet 4 (dOp oIx (dVar 0) (dC (.str "queue"))))
  t_l_next_3)
def t_l_next_1  : DSt :=
  (dSeq (dIfS (dB (dIsN true (dOp oIx (dVar 0) (dC (.str "asked"))))) (dSeq (dIfS (dB (dOp oEq (dVar 3) (dLst (dCons (dOp oIx (dVar 0) (dC (.str "asked"))) dNil)))) (dRet (dUn oNeg (dC (.int 1)))) dNext)
  (dRet (dC .non))) dNext)
  t_l_next_2)
def t_l_next  : DSt :=
  (dSeq (dSet 3 (dOp oIx (dVar 0) (dC (.str "reading"))))
  t_l_next_1)
local macro_rules | `(tactic| walk_at "un") => `(tactic| simp only [t_l_next_7, t_l_next_6, t_l_next_5, t_l_next_4, t_l_next_3, t_l_next_2, t_l_next_1, t_l_next])
def m_l_next : FDm := fun ds M Q _ => ∃ r : Rm, ds = [.dic (eN r), .int r.seats, .int r.patience] ∧ Inv r ∧ wgt r ≤ 1000000 ∧ Q (nextD r) M
theorem len_l_next : ∀ ds M Q X, m_l_next ds M Q X → ds.length = 3 := fun ds M Q X ⟨_, h, _⟩ => by subst h; rfl
theorem read_l_next : ∀ ds M Q X, m_l_next ds M Q X → t_l_next (bodyE Q X) (startD 6 ds) M := by
  rintro ds M Q X ⟨r, rfl, I, hw, h⟩
  unfold t_l_next
  walk_at "dl"
  unfold t_l_next_1
  walk_at "dl"
  cases hk : r.asking with
  | some z =>
    have hz := I.ask z hk
    show cond true _ _
    rw [cond_true]
    walk_at "dl"
    refine ⟨flat_names _, flat_names [z], ?_⟩
    by_cases hr : r.reading = [z]
    · have hb : ∃ q, begun r = some q := by
        unfold begun
        rw [hk]
        simp only
        rw [if_neg (by rw [hr]; exact Nat.lt_irrefl 1)]
        exact ⟨_, rfl⟩
      obtain ⟨q, hb⟩ := hb
      rw [nextD_some hb, placeOf_asked hk] at h
      rw [show D.eqv (.lst (r.reading.map .str)) (.lst [.str z]) = true from (eqv_strs r.reading [z]).mpr hr]
      exact retD_of h
    · have hb : begun r = none := by
        unfold begun
        rw [hk]
        simp only
        rw [if_pos]
        cases hrd : r.reading with
        | nil => rw [hrd] at hz; cases hz
        | cons y l =>
          rw [hrd] at hz hr
          cases l with
          | cons _ _ => simp
          | nil => rw [List.mem_singleton.mp hz] at hr; exact absurd rfl hr
      rw [nextD_none hb] at h
      have : D.eqv (.lst (r.reading.map .str)) (.lst [.str z]) = false := by
        cases e : D.eqv (.lst (r.reading.map .str)) (.lst [.str z]) with
        | false => rfl
        | true => exact absurd ((eqv_strs r.reading [z]).mp e) hr
      rw [this]
      exact retD_of h
  | none =>
    show cond false _ _
    rw [cond_false]
    unfold t_l_next_2 t_l_next_3
    walk_at "dl"
    refine ⟨flat_eLine _, rfl, ?_⟩
    rw [eqv_nil]
    have none_ : nextPlace r.waiting r.seats r.patience r.reading.length r.alone.isSome = none → retD Q .non M := fun e => by
      rw [nextD_none (begun_of_next hk e)] at h
      exact retD_of h
    cases hwt : r.waiting with
    | nil => exact none_ (by rw [hwt]; rfl)
    | cons x l =>
      show cond false _ _
      rw [cond_false]
      cases hal : r.alone with
      | some y => exact none_ (by rw [hal, Option.isSome_some, next_alone])
      | none =>
        show cond false _ _
        rw [cond_false]
        rw [hal, Option.isSome_none] at none_
        unfold t_l_next_4
        walk_at "dl"
        rw [show nth (eLine (x :: l)) 0 = some (eW x) from rfl, el_some]
        unfold eW
        walk_at "dl"
        rw [wishS_write]
        have hwl : (x :: l).length ≤ 1000000 := by
          rw [← hwt]
          unfold wgt at hw
          omega
        have r5 : (x.rd = true ∨ (r.reading.length : Int) ≠ 0) → t_l_next_5 (bodyE Q X) [some (.dic (eN r)), some (.int r.seats), some (.int r.patience), some (.lst (r.reading.map .str)), some (.lst (eLine (x :: l))), none] M := fun hor => by
          unfold t_l_next_5
          walk_at "dl"
          rw [List.length_map]
          refine cond_dec (fun hse => ?_) fun hse => ?_
          · refine none_ ?_
            rw [hwt]
            unfold nextPlace
            simp only
            have c2 : canB r.seats r.reading.length false true = false := decide_eq_false (show ¬ (r.reading.length : Int) < r.seats by omega)
            have c1 : canB r.seats r.reading.length false x.rd = false := by
              cases hx : x.rd with
              | true => exact c2
              | false =>
                refine decide_eq_false ?_
                rcases hor with h | h
                · rw [hx] at h; cases h
                · exact h
            rw [if_neg (bf_ne c1)]
            split
            · rfl
            · cases firstReader (x :: l) with
              | none => rfl
              | some k => rfl
          · have hse : (r.reading.length : Int) < r.seats := by omega
            unfold t_l_next_6
            walk_at "dl"
            rw [len_eLine]
            refine ⟨by omega, by omega, ?_⟩
            refine ⟨fun k δ M' => M' = M ∧ (∀ (j : Nat) (w : Wt), j < k → (x :: l)[j]? = some w → w.rd = false ∧ w.n < r.patience) ∧ ∃ o5 : Option D, δ = [some (.dic (eN r)), some (.int r.seats), some (.int r.patience), some (.lst (r.reading.map .str)), some (.lst (eLine (x :: l))), o5],
              ⟨rfl, fun j w hj => absurd hj (Nat.not_lt_zero _), _, rfl⟩, ?_, ?_⟩
            · rintro k y δ M' hy ⟨rfl, hj, o5, rfl⟩
              refine ⟨trivial, ?_⟩
              obtain ⟨hkl, rfl⟩ := rangeD_get hy
              have hkl : k < (x :: l).length := by
                rw [Int.toNat_natCast] at hkl
                exact hkl
              have hg := List.getElem?_eq_getElem hkl
              generalize (x :: l)[k] = v at hg
              unfold t_l_next_L1
              walk_at "dl"
              rw [nth_eL hg, el_some]
              unfold eW
              walk_at "dl"
              rw [wishS_read]
              cases hv : v.rd with
              | true =>
                show retD Q (.int (k : Int)) M'
                have hnp : nextPlace r.waiting r.seats r.patience r.reading.length false = some k := by
                  rw [hwt]
                  by_cases hk0 : k = 0
                  · subst hk0
                    have : x = v := by simpa using hg
                    subst this
                    unfold nextPlace
                    simp only
                    rw [if_pos]
                    rw [hv]
                    exact decide_eq_true hse
                  · have hx : x.rd = false := (hj 0 x (by omega) rfl).1
                    have h0 : (r.reading.length : Int) ≠ 0 := by
                      rcases hor with h | h
                      · rw [hx] at h; cases h
                      · exact h
                    rw [next_eval hx h0 hse, firstReader_at hg hv fun j w q1 q2 => (hj j w q1 q2).1]
                    simp only
                    rw [if_neg]
                    intro ha
                    obtain ⟨o, ho1, ho2⟩ := List.any_eq_true.mp ha
                    obtain ⟨i, hi⟩ := List.getElem?_of_mem ho1
                    have hik : i < k := by
                      have := (List.getElem?_eq_some_iff.mp hi).1
                      rw [List.length_take] at this
                      omega
                    rw [List.getElem?_take_of_lt hik] at hi
                    have := (hj i o hik hi).2
                    have := of_decide_eq_true ho2
                    omega
                rw [nextD_at hk hal hnp] at h
                exact retD_of h
              | false =>
                show t_l_next_L1_1 _ _ _
                unfold t_l_next_L1_1
                walk_at "dl"
                rw [nth_eL hg, el_some]
                unfold eW
                walk_at "dl"
                refine cond_dec (fun hp => ?_) fun hp => ?_
                · refine none_ ?_
                  rw [hwt]
                  have hx : x.rd = false := by
                    by_cases hk0 : k = 0
                    · subst hk0
                      have : x = v := by simpa using hg
                      rw [this]; exact hv
                    · exact (hj 0 x (by omega) rfl).1
                  have h0 : (r.reading.length : Int) ≠ 0 := by
                    rcases hor with h | h
                    · rw [hx] at h; cases h
                    · exact h
                  rw [next_eval hx h0 hse]
                  cases hf : firstReader (x :: l) with
                  | none => rfl
                  | some m =>
                    simp only
                    rw [if_pos]
                    have hkm : k < m := by
                      refine Classical.byContradiction fun hc => ?_
                      have hml := firstReader_lt hf
                      have hgm := List.getElem?_eq_getElem hml
                      have hr : ((x :: l)[m]).rd = true := by
                        unfold firstReader at hf
                        rw [List.findIdx?_eq_some_iff_getElem] at hf
                        exact hf.2.1
                      by_cases hmk : m = k
                      · subst hmk
                        rw [hgm] at hg
                        cases hg
                        rw [hv] at hr; cases hr
                      · have := (hj m _ (by omega) hgm).1
                        rw [this] at hr; cases hr
                    refine List.any_eq_true.mpr ⟨v, List.mem_of_getElem? (i := k) (by rw [List.getElem?_take_of_lt hkm]; exact hg), decide_eq_true hp⟩
                · refine ⟨fun j w q1 q2 => ?_, _, rfl⟩
                  by_cases hjk : j = k
                  · subst hjk
                    rw [hg] at q2
                    cases q2
                    exact ⟨hv, by omega⟩
                  · exact hj j w (by omega) q2
            · rintro δ M' ⟨rfl, hj, o5, rfl⟩
              refine ⟨trivial, ?_⟩
              rw [rangeD_len, Int.toNat_natCast] at hj
              unfold t_l_next_7
              walk_at "dl"
              have hall : ∀ (j : Nat) (w : Wt), (x :: l)[j]? = some w → w.rd = false := fun j w q => (hj j w (List.getElem?_eq_some_iff.mp q).1 q).1
              have hx : x.rd = false := hall 0 x rfl
              have h0 : (r.reading.length : Int) ≠ 0 := by
                rcases hor with h | h
                · rw [hx] at h; cases h
                · exact h
              refine none_ ?_
              rw [hwt, next_eval hx h0 hse, firstReader_no hall]
        cases hx : x.rd with
        | true => exact r5 (.inl hx)
        | false =>
          show cond true _ _
          rw [cond_true]
          refine ⟨flat_names _, rfl, ?_⟩
          rw [eqv_nil]
          cases hrd : r.reading with
          | nil =>
            show cond true _ _
            rw [cond_true]
            have hnp : nextPlace r.waiting r.seats r.patience r.reading.length false = some 0 := by
              rw [hwt, hrd]
              unfold nextPlace
              simp only
              rw [if_pos]
              rw [hx]
              rfl
            rw [nextD_at hk hal hnp] at h
            exact retD_of h
          | cons y ys =>
            have := r5 (.inr (by rw [hrd, List.length_cons]; omega))
            rw [hrd] at this
            exact this

/-! ### _law_pair(_law_now, _law_place): 0 _law_now, 1 _law_place -/
def t_l_pair_1  : DSt :=
  (dRet (dTup (dCons (dOp oIx (dOp oIx (dOp oIx (dVar 0) (dC (.str "queue"))) (dVar 1)) (dC (.int 0))) (dCons (dOp oIx (dOp oIx (dOp oIx (dVar 0) (dC (.str "queue"))) (dVar 1)) (dC (.int 1))) dNil))))
def t_l_pair  : DSt :=
  (dSeq (dIfS (dB (dOp oLt (dVar 1) (dC (.int 0)))) (dRet (dTup (dCons (dOp oIx (dVar 0) (dC (.str "asked"))) (dCons (dC (.str "write")) dNil)))) dNext)
  t_l_pair_1)
local macro_rules | `(tactic| walk_at "un") => `(tactic| simp only [t_l_pair_1, t_l_pair])
def m_l_pair : FDm := fun ds M Q _ => ∃ (r r1 : Rm) (p : Str × Bool), ds = [.dic (eN r), .int (placeOf r)] ∧ begun r = some (p, r1) ∧ Q (eP p) M
theorem len_l_pair : ∀ ds M Q X, m_l_pair ds M Q X → ds.length = 2 := fun ds M Q X ⟨_, _, _, h, _⟩ => by subst h; rfl
theorem read_l_pair : ∀ ds M Q X, m_l_pair ds M Q X → t_l_pair (bodyE Q X) (startD 2 ds) M := by
  rintro ds M Q X ⟨r, r1, p, rfl, hb, h⟩
  unfold t_l_pair
  walk_at "dl"
  cases hk : r.asking with
  | some z =>
    obtain ⟨hl, rfl, rfl⟩ := begun_asked hk hb
    rw [placeOf_asked hk, decide_eq_true (by decide), cond_true]
    walk_at "dl"
    unfold eP at h
    rw [wishS_f] at h
    exact retD_of h
  | none =>
    obtain ⟨hal, k, w, hn, hg, rfl, rfl⟩ := begun_plain hk hb
    rw [placeOf_plain hk hal hn, decide_eq_false (by omega), cond_false]
    unfold t_l_pair_1
    walk_at "dl"
    rw [nth_eL hg, el_some]
    unfold eW
    walk_at "dl"
    exact retD_of h

/-! ### _law_began(_law_now, _law_place): 0 _law_now, 1 _law_place, 2 _law_new, 3 _law_one, 4 _law_ahead, 5 _law_other -/
def t_l_began_6  : DSt :=
  (dRet (dFrz (dVar 2)))
def t_l_began_5  : DSt :=
  (dSeq (dIfS (dB (dOp oEq (dOp oIx (dVar 3) (dC (.int 1))) (dC (.str "read")))) (dPut (dVar 2) (dC (.str "reading")) (dOp oAdd (dOp oIx (dVar 0) (dC (.str "reading"))) (dLst (dCons (dOp oIx (dVar 3) (dC (.int 0))) dNil)))) (dPut (dVar 2) (dC (.str "alone")) (dOp oIx (dVar 3) (dC (.int 0)))))
  t_l_began_6)
def t_l_began_4  : DSt :=
  (dSeq (dPut (dVar 2) (dC (.str "queue")) (dOp oAdd (dVar 4) (dSl (dOp oIx (dVar 0) (dC (.str "queue"))) (dPart (dOp oAdd (dVar 1) (dC (.int 1)))) dNoPart)))
  t_l_began_5)
def t_l_began_3  : DSt :=
  (dSeq (dSet 4 (dLc (dItems (dSl (dOp oIx (dVar 0) (dC (.str "queue"))) dNoPart (dPart (dVar 1)))) 5 dYes (dTup (dCons (dOp oIx (dVar 5) (dC (.int 0))) (dCons (dOp oIx (dVar 5) (dC (.int 1))) (dCons (dOp oAdd (dOp oIx (dVar 5) (dC (.int 2))) (dC (.int 1))) dNil))))))
  t_l_began_4)
def t_l_began_2  : DSt :=
  (dSeq (dSet 3 (dOp oIx (dOp oIx (dVar 0) (dC (.str "queue"))) (dVar 1)))
  t_l_began_3)
def t_l_began_1  : DSt :=
  (dSeq (dIfS (dB (dOp oLt (dVar 1) (dC (.int 0)))) (dSeq (dPut (dVar 2) (dC (.str "alone")) (dOp oIx (dVar 0) (dC (.str "asked"))))
  (dSeq (dPut (dVar 2) (dC (.str "asked")) (dC .non))
  (dSeq (dPut (dVar 2) (dC (.str "reading")) (dLst dNil))
  (dRet (dFrz (dVar 2)))))) dNext)
  t_l_began_2)
def t_l_began  : DSt :=
  (dSeq (dSet 2 (dCall (on1 dictM) (dCons (dVar 0) dNil)))
  t_l_began_1)
local macro_rules | `(tactic| walk_at "un") => `(tactic| simp only [t_l_began_6, t_l_began_5, t_l_began_4, t_l_began_3, t_l_began_2, t_l_began_1, t_l_began])
def m_l_began : FDm := fun ds M Q _ => ∃ (r r1 : Rm) (p : Str × Bool), ds = [.dic (eN r), .int (placeOf r)] ∧ begun r = some (p, r1) ∧ wgt r ≤ 1000000 ∧ Q (.dic (eN r1)) M
theorem len_l_began : ∀ ds M Q X, m_l_began ds M Q X → ds.length = 2 := fun ds M Q X ⟨_, _, _, h, _⟩ => by subst h; rfl
theorem read_l_began : ∀ ds M Q X, m_l_began ds M Q X → t_l_began (bodyE Q X) (startD 6 ds) M := by
  rintro ds M Q X ⟨r, r1, p, rfl, hb, hw, h⟩
  unfold t_l_began
  walk_at "dl"
  intro q hq
  unfold t_l_began_1
  walk_at "dl"
  cases hk : r.asking with
  | some z =>
    obtain ⟨hl, rfl, rfl⟩ := begun_asked hk hb
    rw [placeOf_asked hk, decide_eq_true (by decide), cond_true]
    rw [Mem.del_set hq]
    exact retD_of h
  | none =>
    obtain ⟨hal, k, w, hn, hg, rfl, rfl⟩ := begun_plain hk hb
    rw [placeOf_plain hk hal hn, decide_eq_false (by omega), cond_false]
    unfold t_l_began_2
    walk_at "dl"
    rw [nth_eL hg, el_some]
    unfold t_l_began_3
    walk_at "dl"
    rw [dcut_take, take_eLine]
    refine lc_map bumpD (fun x hx M1 hs Qd q => ?_) ?_
    · unfold eLine at hx
      obtain ⟨v, hv, rfl⟩ := List.mem_map.mp hx
      unfold eW
      walk_at "dl"
      exact q
    rw [bump_eLine]
    unfold t_l_began_4
    walk_at "dl"
    rw [dcut_drop, drop_eLine]
    walk_at "dl"
    rw [← eLine_app]
    walk_at "dl"
    have hz : (eLine ((r.waiting.take k).map bump)).length + (eLine (r.waiting.drop (k + 1))).length ≤ sizeLine := by
      rw [len_eLine, len_eLine, List.length_map, List.length_take, List.length_drop, sizeLine_eq]
      unfold wgt at hw
      omega
    refine ⟨hz, ?_⟩
    unfold t_l_began_5 eW
    walk_at "dl"
    rw [wishS_read]
    unfold t_l_began_6
    cases hrd : w.rd with
    | true =>
      rw [hrd] at h
      walk_at "dl"
      rw [show D.lst (r.reading.map .str ++ [.str w.name]) = D.lst ((r.reading ++ [w.name]).map .str) by rw [List.map_append]; rfl]
      walk_at "dl"
      rw [Mem.del_set hq]
      refine ⟨?_, retD_of h⟩
      rw [List.length_map, sizeLine_eq]
      unfold wgt at hw
      show _ + 1 ≤ _
      omega
    | false =>
      rw [hrd] at h
      walk_at "dl"
      rw [Mem.del_set hq]
      exact retD_of h

/-! ### _law_journal(_law_script, _law_seats_here, _law_patience_here): 0 _law_script, 1 _law_seats_here, 2 _law_patience_here, 3 _law_many, 4 _law_people_here, 5 _law_deeds, 6 _law_now, 7 _law_rows, 8 _law_k, 9 _law_deed, 10 _law_waits, 11 _law_one, 12 _law_place -/
def t_l_journal_L2_2  : DSt :=
  (dSet 12 (dFn m_l_next (dCons (dVar 6) (dCons (dVar 1) (dCons (dVar 2) dNil)))))
def t_l_journal_L2_1  : DSt :=
  (dSeq (dSet 6 (dFn m_l_began (dCons (dVar 6) (dCons (dVar 12) dNil))))
  t_l_journal_L2_2)
def t_l_journal_L2  : DSt :=
  (dSeq (dExpr (dMet isLst oAppend (dVar 7) (dCons (dOp oAdd (dTup (dCons (dC (.str "begins")) dNil)) (dFn m_l_pair (dCons (dVar 6) (dCons (dVar 12) dNil)))) dNil)))
  t_l_journal_L2_1)
def t_l_journal_L1_1  : DSt :=
  (dIfS (dNot (dB (dFn m_l_refused (dCons (dVar 6) (dCons (dVar 9) dNil))))) (dSeq (dSet 6 (dFn m_l_deed_done (dCons (dVar 6) (dCons (dVar 9) dNil))))
  (dSeq (dExpr (dMet isLst oAppend (dVar 7) (dCons (dFn m_l_row (dCons (dVar 9) dNil)) dNil)))
  (dSeq (dSet 12 (dFn m_l_next (dCons (dVar 6) (dCons (dVar 1) (dCons (dVar 2) dNil)))))
  (dWhile (dB (dIsN true (dVar 12))) t_l_journal_L2)))) dNext)
def t_l_journal_L1  : DSt :=
  (dSeq (dIfS (dB (dOp oLt (dVar 8) (dCall (on1 lenD) (dCons (dVar 5) dNil)))) (dSet 9 (dOp oIx (dVar 5) (dVar 8))) (dSeq (dSet 10 (dLc (dItems (dOp oIx (dVar 6) (dC (.str "queue")))) 11 dYes (dOp oIx (dVar 11) (dC (.int 0)))))
  (dSet 9 (dFn m_l_deed_by (dCons (dOp oIx (dVar 0) (dOp oSub (dOp oAdd (dC (.int 6)) (dVar 8)) (dCall (on1 lenD) (dCons (dVar 5) dNil)))) (dCons (dVar 4) (dCons (dFn m_l_inside (dCons (dVar 6) dNil)) (dCons (dVar 10) dNil))))))))
  t_l_journal_L1_1)
def t_l_journal_6  : DSt :=
  (dRet (dFrz (dVar 7)))
def t_l_journal_5  : DSt :=
  (dSeq (dFor (dRange1 (dCons (dOp oAdd (dCall (on1 lenD) (dCons (dVar 5) dNil)) (dCall (on2 (int2 fun i j => if j > i then j else i)) (dCons (dC (.int 0)) (dCons (dOp oSub (dCall (on1 lenD) (dCons (dVar 0) dNil)) (dC (.int 6))) dNil)))) dNil)) (dgName 8) t_l_journal_L1)
  t_l_journal_6)
def t_l_journal_4  : DSt :=
  (dSeq (dSet 7 (dLstM dNil))
  t_l_journal_5)
def t_l_journal_3  : DSt :=
  (dSeq (dSet 6 (dFn m_l_fresh dNil))
  t_l_journal_4)
def t_l_journal_2  : DSt :=
  (dSeq (dSet 5 (dFn m_l_crowd (dCons (dVar 0) (dCons (dVar 3) dNil))))
  t_l_journal_3)
def t_l_journal_1  : DSt :=
  (dSeq (dSet 4 (dFn m_l_names (dCons (dVar 0) (dCons (dVar 3) dNil))))
  t_l_journal_2)
def t_l_journal  : DSt :=
  (dSeq (dSet 3 (dOp oAdd (dC (.int 1)) (dOp oMod (dFn m_l_cell_at (dCons (dVar 0) (dCons (dC (.int 2)) dNil))) (dC (.int 12)))))
  t_l_journal_1)
local macro_rules | `(tactic| walk_at "un") => `(tactic| simp only [t_l_journal_6, t_l_journal_5, t_l_journal_4, t_l_journal_3, t_l_journal_2, t_l_journal_1, t_l_journal])
def m_l_journal : FDm := fun ds M Q _ => match ds with
  | [.scr ns, .int s, .int p] => ns.length ≤ 64 ∧ 1 ≤ s ∧ ∀ rws : List Rw, rws.length ≤ 1300 → RowsOk rws → Q (.lst (eRows rws)) M
  | _ => False
theorem len_l_journal : ∀ ds M Q X, m_l_journal ds M Q X → ds.length = 3 := fun ds M Q X h => by
  unfold m_l_journal at h
  split at h <;> first | rfl | exact h.elim
theorem read_l_journal : ∀ ds M Q X, m_l_journal ds M Q X → t_l_journal (bodyE Q X) (startD 13 ds) M := by
  intro ds M Q X h
  unfold m_l_journal at h
  split at h
  rotate_left
  · exact h.elim
  rename_i ns s p
  obtain ⟨hl, s1, h⟩ := h
  unfold t_l_journal
  walk_at "dl"
  have m1 := Int.emod_nonneg (cellAt ns 2) (show (12 : Int) ≠ 0 by decide)
  have m2 := Int.emod_lt_of_pos (cellAt ns 2) (show (0 : Int) < 12 by decide)
  unfold t_l_journal_1
  walk_at "dl"
  refine ⟨by omega, by omega, fun names n1 n2 hz => ?_⟩
  unfold t_l_journal_2
  walk_at "dl"
  refine ⟨by omega, by omega, fun deeds hd hdn => ?_⟩
  unfold t_l_journal_3
  walk_at "dl"
  refine ⟨rfl, fun s' p' l' => ?_⟩
  unfold t_l_journal_4
  walk_at "dl"
  intro w hw0
  unfold t_l_journal_5
  walk_at "dl"
  have lend : (eDs deeds).length = deeds.length := List.length_map _
  rw [lend]
  generalize hT : ((deeds.length : Int) + if (ns.length : Int) - 6 > 0 then (ns.length : Int) - 6 else 0) = T
  have hT1 : T ≤ 400 := by
    rw [← hT]
    split <;> omega
  have hT0 : 0 ≤ T := by
    rw [← hT]
    split <;> omega
  have I0 : Inv (newRm s p) := ⟨s1, by show (0 : Int) ≤ s; omega, List.nodup_nil, (by intro z hz; cases hz), (by intro z hz; cases hz), (by intro z hz; cases hz)⟩
  refine ⟨by omega, by omega, ?_⟩
  refine ⟨fun k δ M' => ∃ r : Rm, M' = M.set w (.lst (eRows r.rows)) ∧ RowsOk r.rows ∧ Inv r ∧ wgt r ≤ 3 * k ∧ r.seats = s ∧ r.patience = p ∧
      ∃ o8 o9 o10 o11 o12 : Option D, δ = [some (.scr ns), some (.int s), some (.int p), some (.int (1 + cellAt ns 2 % 12)), some (.lst (names.map .str)), some (.lst (eDs deeds)), some (.dic (eN r)), some (.obj w), o8, o9, o10, o11, o12],
    ⟨newRm s p, rfl, (by intro x hx; cases hx), I0, Nat.le_refl _, rfl, rfl, _, _, _, _, _, rfl⟩, ?_, ?_⟩
  · rintro k x δ M' hx ⟨r, rfl, hro, I, hw, rfl, rfl, o8, o9, o10, o11, o12, rfl⟩
    refine ⟨trivial, ?_⟩
    obtain ⟨hk, rfl⟩ := rangeD_get hx
    have hkk : (k : Int) < T := by omega
    have hwl : r.waiting.length ≤ 1000000 := by unfold wgt at hw; omega
    have hrr : r.rows.length ≤ 1300 := by unfold wgt at hw; omega
    have r1 : ∀ (E : DEnds) (d : Dd) (o10 o11 : Option D), nameOk d.name = true → (∀ (r' : Rm) (o12 : Option D), RowsOk r'.rows → Inv r' → wgt r' ≤ 3 * (k + 1) → r'.seats = r.seats → r'.patience = r.patience → E.nx [some (.scr ns), some (.int r.seats), some (.int r.patience), some (.int (1 + cellAt ns 2 % 12)), some (.lst (names.map .str)), some (.lst (eDs deeds)), some (.dic (eN r')), some (.obj w), some (.int (k : Int)), some (eD d), o10, o11, o12] (M.set w (.lst (eRows r'.rows)))) →
        t_l_journal_L1_1 E [some (.scr ns), some (.int r.seats), some (.int r.patience), some (.int (1 + cellAt ns 2 % 12)), some (.lst (names.map .str)), some (.lst (eDs deeds)), some (.dic (eN r)), some (.obj w), some (.int (k : Int)), some (eD d), o10, o11, o12] (M.set w (.lst (eRows r.rows))) := fun E d o10 o11 hdk hE => by
      obtain ⟨dl, hdl, hdd⟩ := isDeed_eD d
      unfold t_l_journal_L1_1
      walk_at "dl"
      refine ⟨r, d, dl, by rw [hdl], hdd, ?_⟩
      cases e : refB r d with
      | true =>
        walk_at "dl"
        exact hE r _ hro I (by omega) rfl rfl
      | false =>
        have I0 := pre_inv I hdk e
        have I2 : Inv (logR (preR r d) (rowOf d)) := ⟨I0.seats, I0.rds, I0.nd, I0.ok, I0.alo, I0.ask⟩
        have pw := pre_wgt r d e I
        obtain ⟨q1, q2, q3⟩ := pre_numbers r d
        have pw2 : wgt (logR (preR r d) (rowOf d)) ≤ wgt r + 3 := by
          unfold wgt logR
          unfold wgt at pw
          simp only [List.length_append, List.length_singleton]
          omega
        have er0 : (logR (preR r d) (rowOf d)).rows = r.rows ++ [rowOf d] := by
          show (preR r d).rows ++ [rowOf d] = _
          rw [q3]
        generalize hr0 : logR (preR r d) (rowOf d) = r0 at *
        have hen : eN (preR r d) = eN r0 := by rw [← hr0]; rfl
        have hs0 : r0.seats = r.seats := by rw [← hr0]; exact q1
        have hp0 : r0.patience = r.patience := by rw [← hr0]; exact q2
        walk_at "dl"
        refine ⟨r, d, dl, by rw [hdl], hdd, hwl, ?_⟩
        walk_at "dl"
        refine ⟨d, rfl, ?_⟩
        walk_at "dl"
        refine ⟨by rw [len_eRows, sizeLine_eq]; omega, ?_⟩
        rw [show eRows r.rows ++ [eR (rowOf d)] = eRows r0.rows by rw [er0, eRows_app]; rfl]
        refine ⟨r0, by rw [hen, hs0, hp0], I2, by omega, ?_⟩
        refine ⟨fun m δ Mx => ∃ r1 : Rm, Mx = M.set w (.lst (eRows r1.rows)) ∧ RowsOk r1.rows ∧ Inv r1 ∧ wgt r1 ≤ 3 * (k + 1) ∧ meas r1 ≤ m ∧ r1.seats = r.seats ∧ r1.patience = r.patience ∧
          δ = [some (.scr ns), some (.int r.seats), some (.int r.patience), some (.int (1 + cellAt ns 2 % 12)), some (.lst (names.map .str)), some (.lst (eDs deeds)), some (.dic (eN r1)), some (.obj w), some (.int (k : Int)), some (eD d), o10, o11, some (nextD r1)],
          ⟨meas r0, r0, rfl, (by rw [er0]; exact hro.app (by rw [rowOf_nm]; exact hdk)), I2, by omega, Nat.le_refl _, hs0, hp0, by rw [hen]⟩, ?_⟩
        rintro m δ Mx ⟨r1, rfl, jro, J, jw, jm, js, jp, rfl⟩
        walk_at "dl"
        cases hbg : begun r1 with
        | none =>
          rw [nextD_none hbg]
          walk_at "dl"
          exact hE r1 _ jro J jw js jp
        | some qq =>
          obtain ⟨pp, r2⟩ := qq
          rw [nextD_some hbg]
          walk_at "dl"
          obtain ⟨b1, b2, b3⟩ := begun_spec hbg
          have K1 := (begun_inv J hbg).1
          have K2 : Inv (logB r2 pp) := ⟨K1.seats, K1.rds, K1.nd, K1.ok, K1.alo, K1.ask⟩
          have kn := begun_numbers hbg
          obtain ⟨m', rfl⟩ : ∃ m', m = m' + 1 := ⟨m - 1, by omega⟩
          have hrl1 : r1.rows.length ≤ 100000 := by unfold wgt at jw; omega
          unfold t_l_journal_L2
          walk_at "dl"
          refine ⟨r1, r2, pp, rfl, hbg, ?_⟩
          unfold eP
          walk_at "dl"
          refine ⟨by rw [sizeLine_eq]; show 1 + 2 ≤ _; omega, by rw [len_eRows, sizeLine_eq]; omega, ?_⟩
          have e3 : eRows r1.rows ++ [D.tup ([D.str (Str.ofString "begins")] ++ [D.str pp.1, D.str (wishS pp.2)])] = eRows (logB r2 pp).rows := by
            show _ = eRows (r2.rows ++ [.begins pp.1 pp.2])
            rw [b3, eRows_app]; rfl
          rw [e3]
          unfold t_l_journal_L2_1
          walk_at "dl"
          refine ⟨r1, r2, pp, rfl, hbg, by omega, ?_⟩
          unfold t_l_journal_L2_2
          walk_at "dl"
          refine ⟨logB r2 pp, by rw [eN_logB]; show _ = [_, D.int r2.seats, D.int r2.patience]; rw [kn.1, kn.2, js, jp], K2, by omega, ?_⟩
          exact ⟨m', Nat.lt_succ_self _, logB r2 pp, rfl, (by show RowsOk (r2.rows ++ [.begins pp.1 pp.2]); rw [b3]; exact jro.app (begun_ok J hbg)), K2, by omega, by rw [meas_log]; omega, kn.1.trans js, kn.2.trans jp, rfl⟩
    unfold t_l_journal_L1
    walk_at "dl"
    rw [lend]
    refine cond_dec (fun hlt => ?_) fun hge => ?_
    · have hlt : k < deeds.length := by omega
      have e : nth (eDs deeds) (k : Int) = some (eD deeds[k]) := by
        rw [nth_nat]
        unfold eDs
        rw [List.getElem?_map, List.getElem?_eq_getElem hlt]
        rfl
      rw [e, el_some]
      exact r1 _ _ _ _ (hdn _ (List.getElem_mem hlt)) fun r' o12 c1 c2 c3 c4 c5 => ⟨r', rfl, c1, c2, c3, c4, c5, _, _, _, _, _, rfl⟩
    · have h0 : (0 : Int) ≤ 6 + (k : Int) - deeds.length := by omega
      have h1 : 6 + (k : Int) - deeds.length < ns.length := by
        rw [← hT] at hkk
        split at hkk <;> omega
      obtain ⟨n, en⟩ : ∃ n, nth ns (6 + (k : Int) - deeds.length) = some n := by
        rw [nth_toNat _ h0]
        have : (6 + (k : Int) - deeds.length).toNat < ns.length := by omega
        exact ⟨_, List.getElem?_eq_getElem this⟩
      refine lc_map fst (fun x hx M' hs Qd q => ?_) ?_
      · unfold eLine at hx
        obtain ⟨v, hv, rfl⟩ := List.mem_map.mp hx
        unfold eW
        walk_at "dl"
        exact q
      rw [fst_eLine]
      walk_at "dl"
      rw [en, el_some]
      walk_at "dl"
      refine ⟨r, rfl, fun l l1 l2 => ?_⟩
      refine ⟨n, names, l, r.waiting.map (·.name), rfl, n1, by omega, by unfold wgt at hw; omega, hz, fun z hz2 => I.ok z (List.mem_append.mpr (.inl (l2 z hz2))), fun d hdk => ?_⟩
      exact r1 _ _ _ _ hdk fun r' o12 c1 c2 c3 c4 c5 => ⟨r', rfl, c1, c2, c3, c4, c5, _, _, _, _, _, rfl⟩
  · rintro δ M' ⟨r, rfl, hro, I, hw, rfl, rfl, o8, o9, o10, o11, o12, rfl⟩
    refine ⟨trivial, ?_⟩
    rw [rangeD_len] at hw
    unfold t_l_journal_6
    walk_at "dl"
    rw [Mem.del_set hw0]
    exact retD_of (h r.rows (by unfold wgt at hw; omega) hro)

/-! ### _law_misspelt(_law_rows, _law_more): 0 _law_rows, 1 _law_more, 2 _law_places, 3 _law_k, 4 _law_writers, 5 _law_place, 6 _law_words -/
def t_l_misspelt_6  : DSt :=
  (dRet (dOp oAdd (dOp oAdd (dSl (dVar 0) dNoPart (dPart (dVar 5))) (dLst (dCons (dTup (dCons (dOp oIx (dVar 6) (dOp oMod (dOp oDiv (dVar 1) (dC (.int 7))) (dC (.int 12)))) (dCons (dOp oIx (dOp oIx (dVar 0) (dOp oSub (dVar 5) (dC (.int 1)))) (dC (.int 1))) dNil))) dNil))) (dSl (dVar 0) (dPart (dVar 5)) dNoPart)))
def t_l_misspelt_5  : DSt :=
  (dSeq (dSet 6 (dLst (dCons (dC (.str "eases")) (dCons (dC (.str "sits")) (dCons (dC (.str "")) (dCons (dC (.str "asks")) (dCons (dC (.str "leaves")) (dCons (dC (.str "left ")) (dCons (dC (.str "Eased")) (dCons (dC (.str "ease")) (dCons (dC (.str "eased")) (dCons (dC (.str "asked")) (dCons (dC (.str "left")) (dCons (dC (.str "came")) dNil))))))))))))))
  t_l_misspelt_6)
def t_l_misspelt_4  : DSt :=
  (dSeq (dSet 5 (dOp oAdd (dOp oIx (dVar 2) (dOp oMod (dOp oDiv (dVar 1) (dC (.int 3))) (dCall (on1 lenD) (dCons (dVar 2) dNil)))) (dC (.int 1))))
  t_l_misspelt_5)
def t_l_misspelt_3  : DSt :=
  (dSeq (dIfS (dAnd (dB (dOp oNe (dVar 4) (dLst dNil))) (dB (dOp oNe (dOp oMod (dVar 1) (dC (.int 3))) (dC (.int 0))))) (dSet 2 (dVar 4)) dNext)
  t_l_misspelt_4)
def t_l_misspelt_2  : DSt :=
  (dSeq (dSet 4 (dLc (dItems (dVar 2)) 3 (dB (dOp oEq (dOp oIx (dOp oIx (dVar 0) (dVar 3)) (dC (.int 2))) (dC (.str "write")))) (dVar 3)))
  t_l_misspelt_3)
def t_l_misspelt_1  : DSt :=
  (dSeq (dIfS (dB (dOp oEq (dVar 2) (dLst dNil))) (dRet (dVar 0)) dNext)
  t_l_misspelt_2)
def t_l_misspelt  : DSt :=
  (dSeq (dSet 2 (dLc (dRange1 (dCons (dCall (on1 lenD) (dCons (dVar 0) dNil)) dNil)) 3 (dB (dOp oEq (dOp oIx (dOp oIx (dVar 0) (dVar 3)) (dC (.int 0))) (dC (.str "begins")))) (dVar 3)))
  t_l_misspelt_1)
local macro_rules | `(tactic| walk_at "un") => `(tactic| simp only [t_l_misspelt_6, t_l_misspelt_5, t_l_misspelt_4, t_l_misspelt_3, t_l_misspelt_2, t_l_misspelt_1, t_l_misspelt])
def m_l_misspelt : FDm := fun ds M Q _ => ∃ (rws : List Rw) (more : Int), ds = [.lst (eRows rws), .int more] ∧ rws.length ≤ 100000 ∧ ∀ ds' : List D, ds'.length ≤ 3 * rws.length + 3 → (∀ d ∈ ds', flatN 8 d = true) → Q (.lst ds') M
theorem len_l_misspelt : ∀ ds M Q X, m_l_misspelt ds M Q X → ds.length = 2 := fun ds M Q X ⟨_, _, h, _⟩ => by subst h; rfl
def isBeg (rws : List Rw) (k : Nat) : Bool := match rws[k]? with
  | some (.begins _ _) => true
  | _ => false
def isBegW (rws : List Rw) (k : Nat) : Bool := match rws[k]? with
  | some (.begins _ b) => !b
  | _ => false
def onNat (p : Nat → Bool) : D → Bool
  | .int i => p i.toNat
  | _ => false
def eInts (l : List Nat) : List D := l.map fun k : Nat => D.int (k : Int)
theorem filter_range (p : Nat → Bool) (n : Nat) : ((rangeD 0 n).filter (onNat p)).map (fun x => x) = eInts ((List.range n).filter p) := by
  rw [List.map_id']
  unfold rangeD eInts
  rw [List.filter_map]
  have : (onNat p ∘ fun i : Nat => D.int (0 + (i : Int))) = p := by
    funext i
    show p ((0 : Int) + (i : Int)).toNat = p i
    rw [Int.zero_add, Int.toNat_natCast]
  rw [this]
  refine List.map_congr_left fun k _ => ?_
  rw [Int.zero_add]
theorem filter_ints (p : Nat → Bool) (l : List Nat) : ((eInts l).filter (onNat p)).map (fun x => x) = eInts (l.filter p) := by
  rw [List.map_id']
  unfold eInts
  rw [List.filter_map]
  have : (onNat p ∘ fun i : Nat => D.int (i : Int)) = p := by
    funext i
    show p (i : Int).toNat = p i
    rw [Int.toNat_natCast]
  rw [this]
theorem flat_eInts (l : List Nat) : flatN 9 (.lst (eInts l)) = true := by
  rw [flatN_lst]
  exact flat_map _ _ (fun _ => rfl) l
theorem nth_eInts {l : List Nat} (x : Int) (h : 0 < l.length) : ∃ k ∈ l, nth (eInts l) (x % ((eInts l).length : Int)) = some (.int (k : Int)) := by
  obtain ⟨d, hd, e⟩ := nth_mod (eInts l) x (eInts l).length rfl (by unfold eInts; rw [List.length_map]; exact h)
  unfold eInts at hd
  obtain ⟨k, hk, rfl⟩ := List.mem_map.mp hd
  exact ⟨k, hk, e⟩
theorem nth_eRows {rws : List Rw} {k : Nat} {x : Rw} (h : rws[k]? = some x) : nth (eRows rws) (k : Int) = some (eR x) := by
  rw [nth_nat]
  unfold eRows
  rw [List.getElem?_map, h]
  rfl
theorem isBeg_at {rws : List Rw} {k : Nat} (h : isBeg rws k = true) : ∃ z b, rws[k]? = some (.begins z b) := by
  unfold isBeg at h
  split at h
  · rename_i z b e; exact ⟨z, b, e⟩
  · cases h
theorem flat_dcut {rws : List Rw} {lo hi : Option Int} : ∀ d ∈ dcut (eRows rws) lo hi, flatN 8 d = true := fun d hd => by
  have hd := mem_dcut hd
  unfold eRows at hd
  obtain ⟨x, _, rfl⟩ := List.mem_map.mp hd
  exact flat_row x
theorem word_row (x : Rw) : ∃ w, eR x = .tup (x.words.map .str) ∧ nth (x.words.map D.str) 0 = some (.str w) ∧ decide (w = Str.ofString "begins") = (match x with | .begins _ _ => true | _ => false) := by
  cases x with
  | begins z b => exact ⟨_, rfl, rfl, decide_eq_true rfl⟩
  | came z b => exact ⟨_, rfl, rfl, decide_eq_false (by decide +kernel)⟩
  | left z => exact ⟨_, rfl, rfl, decide_eq_false (by decide +kernel)⟩
  | asked z => exact ⟨_, rfl, rfl, decide_eq_false (by decide +kernel)⟩
  | eased z => exact ⟨_, rfl, rfl, decide_eq_false (by decide +kernel)⟩
theorem read_l_misspelt : ∀ ds M Q X, m_l_misspelt ds M Q X → t_l_misspelt (bodyE Q X) (startD 7 ds) M := by
  rintro ds M Q X ⟨rws, more, rfl, hl, h⟩
  unfold t_l_misspelt
  walk_at "dl"
  have ll := len_eRows rws
  refine ⟨by omega, by omega, ?_⟩
  refine lc_pure (onNat (isBeg rws)) (fun x => x) (fun x hx M' hs Qb q => ?_) (fun x hx hp M' hs Qd q => ?_) ?_
  · unfold rangeD at hx
    obtain ⟨k, hk, rfl⟩ := List.mem_map.mp hx
    rw [Int.zero_add] at q ⊢
    have hk : k < rws.length := by simpa [ll] using List.mem_range.mp hk
    have hg := List.getElem?_eq_getElem hk
    obtain ⟨w, e1, e2, e3⟩ := word_row rws[k]
    walk_at "dl"
    rw [nth_eRows hg, e1, el_some]
    walk_at "dl"
    rw [e2, el_some]
    walk_at "dl"
    rw [e3]
    have : (match rws[k] with | .begins _ _ => true | _ => false) = onNat (isBeg rws) (.int (k : Int)) := by
      show _ = isBeg rws (k : Int).toNat
      unfold isBeg
      rw [Int.toNat_natCast, hg]
      cases rws[k] <;> rfl
    rw [this]
    exact q
  · walk_at "dl"
    exact q
  rw [filter_range, Int.toNat_natCast]
  generalize hP : (List.range (eRows rws).length).filter (isBeg rws) = P
  have hPm : ∀ k ∈ P, isBeg rws k = true := fun k hk => by
    rw [← hP] at hk
    exact (List.mem_filter.mp hk).2
  walk_at "dl"
  unfold t_l_misspelt_1
  walk_at "dl"
  refine ⟨flat_eInts P, rfl, ?_⟩
  rw [eqv_nil]
  cases hPe : (eInts P).isEmpty with
  | true =>
    show cond true _ _
    rw [cond_true]
    refine retD_of (h (eRows rws) (by rw [ll]; omega) fun d hd => ?_)
    unfold eRows at hd
    obtain ⟨x, _, rfl⟩ := List.mem_map.mp hd
    exact flat_row x
  | false =>
  show cond false _ _
  rw [cond_false]
  have hP0 : 0 < P.length := by
    cases P with
    | nil => cases hPe
    | cons _ _ => simp
  unfold t_l_misspelt_2
  walk_at "dl"
  refine lc_pure (onNat (isBegW rws)) (fun x => x) (fun x hx M' hs Qb q => ?_) (fun x hx hp M' hs Qd q => ?_) ?_
  · unfold eInts at hx
    obtain ⟨k, hk, rfl⟩ := List.mem_map.mp hx
    obtain ⟨z, b, hg⟩ := isBeg_at (hPm k hk)
    walk_at "dl"
    rw [nth_eRows hg, el_some]
    rw [show eR (.begins z b) = .tup [.str (Str.ofString "begins"), .str z, .str (wishS b)] from rfl]
    walk_at "dl"
    rw [wishS_write]
    have : (!b) = onNat (isBegW rws) (.int (k : Int)) := by
      show _ = isBegW rws (k : Int).toNat
      unfold isBegW
      rw [Int.toNat_natCast, hg]
    rw [this]
    exact q
  · walk_at "dl"
    exact q
  rw [filter_ints]
  generalize hW : P.filter (isBegW rws) = W
  have hWm : ∀ k ∈ W, isBeg rws k = true := fun k hk => by
    rw [← hW] at hk
    exact hPm k (List.mem_filter.mp hk).1
  have fin : ∀ (L : List Nat) (o2 o3 : Option D), 0 < L.length → (∀ k ∈ L, isBeg rws k = true) → t_l_misspelt_4 (bodyE Q X) [some (.lst (eRows rws)), some (.int more), some (.lst (eInts L)), o2, some (.lst (eInts W)), o3, none] M := fun L o2 o3 hL hLm => by
    unfold t_l_misspelt_4
    walk_at "dl"
    have hL2 : 0 < (eInts L).length := by unfold eInts; rw [List.length_map]; exact hL
    obtain ⟨k, hk, e⟩ := nth_eInts (more / 3) hL
    obtain ⟨z, b, hg⟩ := isBeg_at (hLm k hk)
    refine ⟨by omega, ?_⟩
    rw [e, el_some]
    walk_at "dl"
    unfold t_l_misspelt_5
    walk_at "dl"
    unfold t_l_misspelt_6
    walk_at "dl"
    obtain ⟨wd, hwd, ew⟩ := nth_mod ([Str.ofString "eases", Str.ofString "sits", Str.ofString "", Str.ofString "asks", Str.ofString "leaves", Str.ofString "left ", Str.ofString "Eased", Str.ofString "ease", Str.ofString "eased", Str.ofString "asked", Str.ofString "left", Str.ofString "came"].map D.str) (more / 7) 12 rfl (by decide)
    obtain ⟨w, _, rfl⟩ := List.mem_map.mp hwd
    rw [show ((12 : Nat) : Int) = 12 from rfl] at ew
    rw [show nth [D.str (Str.ofString "eases"), D.str (Str.ofString "sits"), D.str (Str.ofString ""), D.str (Str.ofString "asks"), D.str (Str.ofString "leaves"), D.str (Str.ofString "left "), D.str (Str.ofString "Eased"), D.str (Str.ofString "ease"), D.str (Str.ofString "eased"), D.str (Str.ofString "asked"), D.str (Str.ofString "left"), D.str (Str.ofString "came")] (more / 7 % 12) = some (.str w) from ew, el_some]
    rw [show (k : Int) + 1 - 1 = (k : Int) by omega, nth_eRows hg, el_some]
    rw [show eR (.begins z b) = .tup [.str (Str.ofString "begins"), .str z, .str (wishS b)] from rfl]
    walk_at "dl"
    have l1 := dcut_len (eRows rws) none (some ((k : Int) + 1))
    have l2 := dcut_len (eRows rws) (some ((k : Int) + 1)) none
    have lw : ([D.tup [D.str w, D.str z]] : List D).length = 1 := rfl
    refine ⟨by rw [sizeLine_eq]; omega, by rw [List.length_append, sizeLine_eq]; omega, retD_of (h _ (by rw [List.length_append, List.length_append]; omega) fun d hd => ?_)⟩
    rcases List.mem_append.mp hd with hd | hd
    · rcases List.mem_append.mp hd with hd | hd
      · exact flat_dcut d hd
      · rw [List.mem_singleton.mp hd]
        rfl
    · exact flat_dcut d hd
  walk_at "dl"
  unfold t_l_misspelt_3
  walk_at "dl"
  refine ⟨flat_eInts W, rfl, ?_⟩
  rw [eqv_nil]
  cases hWe : (eInts W).isEmpty with
  | true =>
    walk_at "dl"
    exact fin P _ _ hP0 hPm
  | false =>
    walk_at "dl"
    have hW0 : 0 < W.length := by
      cases W with
      | nil => cases hWe
      | cons _ _ => simp
    refine cond_of (fun _ => ?_) fun _ => ?_
    · exact fin W _ _ hW0 hWm
    · exact fin P _ _ hP0 hPm

/-! ### _law_other_row(_law_row_here, _law_way, _law_cell, _law_ahead): 0 _law_row_here, 1 _law_way, 2 _law_cell, 3 _law_ahead, 4 _law_who, 5 _law_some -/
def t_l_other_row_10  : DSt :=
  (dRet (dOp oIx (dVar 5) (dOp oMod (dVar 2) (dC (.int 30)))))
def t_l_other_row_9  : DSt :=
  (dSeq (dSet 5 (dOp oAdd (dVar 5) (dLst (dCons (dTup (dCons (dC (.str "begins")) (dCons (dVar 4) (dCons (dC (.str "write")) dNil)))) (dCons (dTup (dCons (dC (.str "asked")) (dCons (dVar 4) dNil))) dNil)))))
  t_l_other_row_10)
def t_l_other_row_8  : DSt :=
  (dSeq (dSet 5 (dOp oAdd (dVar 5) (dLst (dCons (dTup (dCons (dC (.str "asks")) (dCons (dVar 4) dNil))) (dCons (dTup (dCons (dC (.str "leaves")) (dCons (dVar 4) dNil))) (dCons (dTup (dCons (dC (.str "read")) (dCons (dVar 4) dNil))) (dCons (dTup (dCons (dC (.str "LEFT")) (dCons (dVar 4) dNil))) (dCons (dTup (dCons (dC (.str "gone")) (dCons (dVar 4) (dCons (dC (.str "write")) dNil)))) (dCons dDic0M dNil)))))))))
  t_l_other_row_9)
def t_l_other_row_7  : DSt :=
  (dSeq (dSet 5 (dOp oAdd (dVar 5) (dLst (dCons (dTup (dCons (dC (.str "")) (dCons (dVar 4) dNil))) (dCons (dTup (dCons (dC (.int 5)) (dCons (dVar 4) dNil))) (dCons (dTup (dCons (dC (.str "left")) (dCons (dLst (dCons (dVar 4) dNil)) dNil))) (dCons (dTup (dCons (dC (.str "came")) (dCons (dVar 4) (dCons (dC .non) dNil)))) (dCons (dTup (dCons (dC (.str "came")) (dCons (dLst (dCons (dVar 4) dNil)) (dCons (dC (.str "read")) dNil)))) dNil))))))))
  t_l_other_row_8)
def t_l_other_row_6  : DSt :=
  (dSeq (dSet 5 (dOp oAdd (dVar 5) (dLst (dCons (dTup (dCons (dC (.str "begins")) (dCons (dVar 4) (dCons (dC (.str "read")) (dCons (dC (.str "b")) dNil))))) (dCons (dTup (dCons (dC (.str "eased")) (dCons (dVar 4) dNil))) (dCons (dTup (dCons (dC (.str "eases")) (dCons (dVar 4) dNil))) (dCons (dTup (dCons (dC (.str "begins")) (dCons (dVar 4) dNil))) (dCons (dTup (dCons (dC (.str "sits")) (dCons (dVar 4) dNil))) dNil))))))))
  t_l_other_row_7)
def t_l_other_row_5  : DSt :=
  (dSeq (dSet 5 (dOp oAdd (dVar 5) (dLst (dCons (dTup (dCons (dC (.str "comes")) (dCons (dVar 4) (dCons (dC (.str "read")) dNil)))) (dCons (dTup (dCons (dC (.str "came")) (dCons (dC (.int 5)) (dCons (dC (.str "read")) dNil)))) (dCons (dTup (dCons (dC (.str "came")) (dCons (dVar 4) (dCons (dC (.str "Read")) dNil)))) (dCons (dTup (dCons (dC (.str "left")) (dCons (dC .non) dNil))) (dCons (dTup dNil) dNil))))))))
  t_l_other_row_6)
def t_l_other_row_4  : DSt :=
  (dSeq (dSet 5 (dLst (dCons (dC .non) (dCons (dC (.int 5)) (dCons (dOp oAdd (dC (.str "left ")) (dVar 4)) (dCons (dLst (dCons (dC (.str "left")) (dCons (dVar 4) dNil))) (dCons (dTup (dCons (dC (.str "left")) dNil)) (dCons (dTup (dCons (dC (.str "left")) (dCons (dVar 4) (dCons (dC (.str "read")) dNil)))) (dCons (dTup (dCons (dC (.str "came")) (dCons (dVar 4) dNil))) dNil)))))))))
  t_l_other_row_5)
def t_l_other_row_3  : DSt :=
  (dSeq (dIfS (dB (dOp oEq (dOp oMod (dOp oDiv (dVar 2) (dC (.int 30))) (dC (.int 2))) (dC (.int 0)))) (dSet 4 (dOp oIx (dVar 3) (dC (.int 1)))) dNext)
  t_l_other_row_4)
def t_l_other_row_2  : DSt :=
  (dSeq (dSet 4 (dOp oIx (dVar 0) (dC (.int 1))))
  t_l_other_row_3)
def t_l_other_row_1  : DSt :=
  (dSeq (dIfS (dAnd (dB (dOp oEq (dVar 1) (dC (.int 5)))) (dB (dOp oEq (dCall (on1 lenD) (dCons (dVar 0) dNil)) (dC (.int 3))))) (dRet (dTup (dCons (dOp oIx (dVar 0) (dC (.int 0))) (dCons (dOp oIx (dVar 0) (dC (.int 1))) (dCons (dOp oIx (dLst (dCons (dC (.str "read")) (dCons (dC (.str "write")) dNil))) (dCall (on1 intD) (dCons (dOp oEq (dOp oIx (dVar 0) (dC (.int 2))) (dC (.str "read"))) dNil))) dNil))))) dNext)
  t_l_other_row_2)
def t_l_other_row  : DSt :=
  (dSeq (dIfS (dB (dOp oEq (dVar 1) (dC (.int 4)))) (dRet (dOp oAdd (dTup (dCons (dOp oIx (dVar 0) (dC (.int 0))) (dCons (dOp oIx (dLst (dCons (dC (.str "a")) (dCons (dC (.str "b")) (dCons (dC (.str "zz9")) (dCons (dOp oAdd (dSl (dOp oIx (dVar 0) (dC (.int 1))) (dPart (dC (.int 1))) dNoPart) (dC (.str "x"))) (dCons (dC (.str "A")) (dCons (dC (.str "")) dNil))))))) (dOp oMod (dVar 2) (dC (.int 6)))) dNil))) (dSl (dVar 0) (dPart (dC (.int 2))) dNoPart))) dNext)
  t_l_other_row_1)
local macro_rules | `(tactic| walk_at "un") => `(tactic| simp only [t_l_other_row_10, t_l_other_row_9, t_l_other_row_8, t_l_other_row_7, t_l_other_row_6, t_l_other_row_5, t_l_other_row_4, t_l_other_row_3, t_l_other_row_2, t_l_other_row_1, t_l_other_row])
def m_l_other_row : FDm := fun ds M Q _ => ∃ (x y : Rw) (way cell : Int), ds = [eR x, .int way, .int cell, eR y] ∧ nameOk (rowNm x) = true ∧ nameOk (rowNm y) = true ∧ ∀ (d : D) (M' : Mem), Ext M M' → itemF M' d → Q d M'
theorem len_l_other_row : ∀ ds M Q X, m_l_other_row ds M Q X → ds.length = 4 := fun ds M Q X ⟨_, _, _, _, h, _⟩ => by subst h; rfl
theorem row_two (x : Rw) : ∃ (w0 w1 : Str) (rest : List Str), eR x = .tup (.str w0 :: .str w1 :: rest.map .str) ∧ w1 = rowNm x ∧ rest.length ≤ 1 := by
  cases x with
  | begins z b => exact ⟨_, _, [wishS b], rfl, rfl, Nat.le_refl _⟩
  | came z b => exact ⟨_, _, [wishS b], rfl, rfl, Nat.le_refl _⟩
  | left z => exact ⟨_, _, [], rfl, rfl, Nat.zero_le _⟩
  | asked z => exact ⟨_, _, [], rfl, rfl, Nat.zero_le _⟩
  | eased z => exact ⟨_, _, [], rfl, rfl, Nat.zero_le _⟩
theorem item_app {M : Mem} {L A : List D} (h : ∀ d ∈ L, itemF M d) (hA : A.all (flatN 8) = true) : ∀ d ∈ L ++ A, itemF M d := fun d hd => by
  rcases List.mem_append.mp hd with e | e
  · exact h d e
  · exact .inl (List.all_eq_true.mp hA d e)
theorem item_appM {M : Mem} {L A : List D} {b : D} (h : ∀ d ∈ L, itemF M d) (hA : A.all (flatN 8) = true) (hb : ∃ p kvs, b = .obj p ∧ M p = some (.dic kvs)) : ∀ d ∈ L ++ (A ++ [b]), itemF M d := fun d hd => by
  rcases List.mem_append.mp hd with e | e
  · exact h d e
  · rcases List.mem_append.mp e with e | e
    · exact .inl (List.all_eq_true.mp hA d e)
    · rw [List.mem_singleton.mp e]
      exact .inr hb
theorem read_l_other_row : ∀ ds M Q X, m_l_other_row ds M Q X → t_l_other_row (bodyE Q X) (startD 6 ds) M := by
  rintro ds M Q X ⟨x, y, way, cell, rfl, hnx, hny, h⟩
  obtain ⟨w0, w1, rest, ex, ew, hr⟩ := row_two x
  obtain ⟨u0, u1, rest2, ey, eu, _⟩ := row_two y
  have l1 : w1.length ≤ 12 := by rw [ew]; exact name_len hnx
  have l2 : u1.length ≤ 12 := by rw [eu]; exact name_len hny
  have l5 : (Str.ofString "left ").length = 5 := by decide +kernel
  rw [ex, ey]
  unfold t_l_other_row
  walk_at "dl"
  refine cond_dec (fun e => ?_) fun e => ?_
  · have lx : (Str.ofString "x").length = 1 := by decide +kernel
    have lc := cut_lo_len w1 (show (0 : Int) ≤ 1 by decide)
    refine ⟨by rw [lc, lx, sizeLine_eq]; omega, ?_⟩
    obtain ⟨d, hd, en⟩ := nth_mod ([Str.ofString "a", Str.ofString "b", Str.ofString "zz9", cutS w1 (some 1) none ++ Str.ofString "x", Str.ofString "A", Str.ofString ""].map D.str) cell 6 rfl (by decide)
    obtain ⟨z, _, rfl⟩ := List.mem_map.mp hd
    rw [show nth [D.str (Str.ofString "a"), D.str (Str.ofString "b"), D.str (Str.ofString "zz9"), D.str (cutS w1 (some 1) none ++ Str.ofString "x"), D.str (Str.ofString "A"), D.str (Str.ofString "")] (cell % 6) = some (.str z) from en, el_some]
    rw [show (D.str w0 :: D.str w1 :: List.map D.str rest) = (w0 :: w1 :: rest).map D.str from rfl, dcut_map]
    have l3 := dcut_len (w0 :: w1 :: rest) (some 2) none
    refine ⟨by rw [List.length_map, sizeLine_eq]; simp only [List.length_cons, List.length_nil] at l3 ⊢; omega, ?_⟩
    refine retD_of (h _ M (Ext.refl M) (.inl ?_))
    rw [show [D.str w0, D.str z] ++ (dcut (w0 :: w1 :: rest) (some 2) none).map D.str = (w0 :: z :: dcut (w0 :: w1 :: rest) (some 2) none).map D.str from rfl, flatN_tup]
    exact flat_strs _ _
  have rest2h : t_l_other_row_2 (bodyE Q X) [some (.tup (.str w0 :: .str w1 :: rest.map .str)), some (.int way), some (.int cell), some (.tup (.str u0 :: .str u1 :: rest2.map .str)), none, none] M := by
    unfold t_l_other_row_2
    walk_at "dl"
    unfold t_l_other_row_3
    walk_at "dl"
    have st10 : ∀ (who : Str) (L : List D) (M' : Mem), Ext M M' → L.length = 30 → (∀ d ∈ L, itemF M' d) → t_l_other_row_10 (bodyE Q X) [some (.tup (.str w0 :: .str w1 :: rest.map .str)), some (.int way), some (.int cell), some (.tup (.str u0 :: .str u1 :: rest2.map .str)), some (.str who), some (.lst L)] M' := fun who L M' x1 hL hi => by
      unfold t_l_other_row_10
      walk_at "dl"
      obtain ⟨d, hd, e⟩ := nth_mod L cell 30 hL (by decide)
      rw [show ((30 : Nat) : Int) = 30 from rfl] at e
      rw [e, el_some]
      exact retD_of (h d M' x1 (hi d hd))
    have st9 : ∀ (who : Str) (L : List D) (M' : Mem), Ext M M' → L.length = 28 → (∀ d ∈ L, itemF M' d) → t_l_other_row_9 (bodyE Q X) [some (.tup (.str w0 :: .str w1 :: rest.map .str)), some (.int way), some (.int cell), some (.tup (.str u0 :: .str u1 :: rest2.map .str)), some (.str who), some (.lst L)] M' := fun who L M' x1 hL hi => by
      unfold t_l_other_row_9
      exact set_add (L := L) (A := [.tup [.str (Str.ofString "begins"), .str who, .str (Str.ofString "write")], .tup [.str (Str.ofString "asked"), .str who]]) rfl (by repeat (first | exact pure_nil | exact pure_c _ | exact pure_v rfl | exact dicA_nil | refine pure_cons ?_ ?_ | refine dicA_cons ?_ ?_ | refine pure_tup ?_ ?_ | refine pure_lst ?_ ?_ | exact pure_addS (pure_c _) (pure_v rfl) hsz | simp only [few])) (by rw [hL, sizeLine_eq]; show 28 + 2 ≤ _; omega) (st10 who _ M' x1 (by rw [List.length_append, hL]; rfl) (item_app hi (by simp only [List.all_cons, List.all_nil, flatN_tup, flatN_lst, flatL_cons, flatL_nil, flatN_str, flatN_int, flatN_non, Bool.and_self])))
    have st8 : ∀ (who : Str) (L : List D), L.length = 22 → (∀ d ∈ L, itemF M d) → t_l_other_row_8 (bodyE Q X) [some (.tup (.str w0 :: .str w1 :: rest.map .str)), some (.int way), some (.int cell), some (.tup (.str u0 :: .str u1 :: rest2.map .str)), some (.str who), some (.lst L)] M := fun who L hL hi => by
      unfold t_l_other_row_8
      exact set_addD (L := L) (A := [.tup [.str (Str.ofString "asks"), .str who], .tup [.str (Str.ofString "leaves"), .str who], .tup [.str (Str.ofString "read"), .str who], .tup [.str (Str.ofString "LEFT"), .str who], .tup [.str (Str.ofString "gone"), .str who, .str (Str.ofString "write")]]) rfl (by repeat (first | exact pure_nil | exact pure_c _ | exact pure_v rfl | exact dicA_nil | refine pure_cons ?_ ?_ | refine dicA_cons ?_ ?_ | refine pure_tup ?_ ?_ | refine pure_lst ?_ ?_ | exact pure_addS (pure_c _) (pure_v rfl) hsz | simp only [few])) (by intro p; simp only [List.cons_append, List.nil_append, few]) (by intro p; rw [hL, sizeLine_eq]; show 22 + 6 ≤ _; omega) (fun p hp => st9 who _ _ (Ext.set hp) (by rw [List.length_append, hL]; rfl) (item_appM (fun d hd => (Ext.set hp).item (hi d hd)) (by simp only [List.all_cons, List.all_nil, flatN_tup, flatN_lst, flatL_cons, flatL_nil, flatN_str, flatN_int, flatN_non, Bool.and_self]) ⟨p, [], rfl, Mem.set_same⟩))
    have st7 : ∀ (who : Str) (L : List D), L.length = 17 → (∀ d ∈ L, itemF M d) → t_l_other_row_7 (bodyE Q X) [some (.tup (.str w0 :: .str w1 :: rest.map .str)), some (.int way), some (.int cell), some (.tup (.str u0 :: .str u1 :: rest2.map .str)), some (.str who), some (.lst L)] M := fun who L hL hi => by
      unfold t_l_other_row_7
      exact set_add (L := L) (A := [.tup [.str (Str.ofString ""), .str who], .tup [.int 5, .str who], .tup [.str (Str.ofString "left"), .lst [.str who]], .tup [.str (Str.ofString "came"), .str who, .non], .tup [.str (Str.ofString "came"), .lst [.str who], .str (Str.ofString "read")]]) rfl (by repeat (first | exact pure_nil | exact pure_c _ | exact pure_v rfl | exact dicA_nil | refine pure_cons ?_ ?_ | refine dicA_cons ?_ ?_ | refine pure_tup ?_ ?_ | refine pure_lst ?_ ?_ | exact pure_addS (pure_c _) (pure_v rfl) hsz | simp only [few])) (by rw [hL, sizeLine_eq]; show 17 + 5 ≤ _; omega) (st8 who _ (by rw [List.length_append, hL]; rfl) (item_app hi (by simp only [List.all_cons, List.all_nil, flatN_tup, flatN_lst, flatL_cons, flatL_nil, flatN_str, flatN_int, flatN_non, Bool.and_self])))
    have st6 : ∀ (who : Str) (L : List D), L.length = 12 → (∀ d ∈ L, itemF M d) → t_l_other_row_6 (bodyE Q X) [some (.tup (.str w0 :: .str w1 :: rest.map .str)), some (.int way), some (.int cell), some (.tup (.str u0 :: .str u1 :: rest2.map .str)), some (.str who), some (.lst L)] M := fun who L hL hi => by
      unfold t_l_other_row_6
      exact set_add (L := L) (A := [.tup [.str (Str.ofString "begins"), .str who, .str (Str.ofString "read"), .str (Str.ofString "b")], .tup [.str (Str.ofString "eased"), .str who], .tup [.str (Str.ofString "eases"), .str who], .tup [.str (Str.ofString "begins"), .str who], .tup [.str (Str.ofString "sits"), .str who]]) rfl (by repeat (first | exact pure_nil | exact pure_c _ | exact pure_v rfl | exact dicA_nil | refine pure_cons ?_ ?_ | refine dicA_cons ?_ ?_ | refine pure_tup ?_ ?_ | refine pure_lst ?_ ?_ | exact pure_addS (pure_c _) (pure_v rfl) hsz | simp only [few])) (by rw [hL, sizeLine_eq]; show 12 + 5 ≤ _; omega) (st7 who _ (by rw [List.length_append, hL]; rfl) (item_app hi (by simp only [List.all_cons, List.all_nil, flatN_tup, flatN_lst, flatL_cons, flatL_nil, flatN_str, flatN_int, flatN_non, Bool.and_self])))
    have st5 : ∀ (who : Str) (L : List D), L.length = 7 → (∀ d ∈ L, itemF M d) → t_l_other_row_5 (bodyE Q X) [some (.tup (.str w0 :: .str w1 :: rest.map .str)), some (.int way), some (.int cell), some (.tup (.str u0 :: .str u1 :: rest2.map .str)), some (.str who), some (.lst L)] M := fun who L hL hi => by
      unfold t_l_other_row_5
      exact set_add (L := L) (A := [.tup [.str (Str.ofString "comes"), .str who, .str (Str.ofString "read")], .tup [.str (Str.ofString "came"), .int 5, .str (Str.ofString "read")], .tup [.str (Str.ofString "came"), .str who, .str (Str.ofString "Read")], .tup [.str (Str.ofString "left"), .non], .tup []]) rfl (by repeat (first | exact pure_nil | exact pure_c _ | exact pure_v rfl | exact dicA_nil | refine pure_cons ?_ ?_ | refine dicA_cons ?_ ?_ | refine pure_tup ?_ ?_ | refine pure_lst ?_ ?_ | exact pure_addS (pure_c _) (pure_v rfl) hsz | simp only [few])) (by rw [hL, sizeLine_eq]; show 7 + 5 ≤ _; omega) (st6 who _ (by rw [List.length_append, hL]; rfl) (item_app hi (by simp only [List.all_cons, List.all_nil, flatN_tup, flatN_lst, flatL_cons, flatL_nil, flatN_str, flatN_int, flatN_non, Bool.and_self])))
    have fin : ∀ who : Str, (Str.ofString "left ").length + who.length ≤ sizeLine → t_l_other_row_4 (bodyE Q X) [some (.tup (.str w0 :: .str w1 :: rest.map .str)), some (.int way), some (.int cell), some (.tup (.str u0 :: .str u1 :: rest2.map .str)), some (.str who), none] M := fun who hsz => by
      unfold t_l_other_row_4
      exact set_pure (d := .lst [.non, .int 5, .str (Str.ofString "left " ++ who), .lst [.str (Str.ofString "left"), .str who], .tup [.str (Str.ofString "left")], .tup [.str (Str.ofString "left"), .str who, .str (Str.ofString "read")], .tup [.str (Str.ofString "came"), .str who]]) (by repeat (first | exact pure_nil | exact pure_c _ | exact pure_v rfl | exact dicA_nil | refine pure_cons ?_ ?_ | refine dicA_cons ?_ ?_ | refine pure_tup ?_ ?_ | refine pure_lst ?_ ?_ | exact pure_addS (pure_c _) (pure_v rfl) hsz | simp only [few])) (st5 who _ rfl fun d hd => .inl (List.all_eq_true.mp (by simp only [List.all_cons, List.all_nil, flatN_tup, flatN_lst, flatL_cons, flatL_nil, flatN_str, flatN_int, flatN_non, Bool.and_self]) d hd))
    refine cond_dec (fun e => ?_) fun e => ?_
    · exact fin u1 (by rw [l5, sizeLine_eq]; omega)
    · exact fin w1 (by rw [l5, sizeLine_eq]; omega)
  unfold t_l_other_row_1
  walk_at "dl"
  refine cond_dec (fun e => ?_) fun e => ?_
  · match rest, hr with
    | [], _ =>
      rw [show decide (((D.str w0 :: D.str w1 :: List.map D.str []).length : Int) = 3) = false from rfl, cond_false]
      exact rest2h
    | [v], _ =>
      rw [show decide (((D.str w0 :: D.str w1 :: List.map D.str [v]).length : Int) = 3) = true from rfl, cond_true]
      rw [show nth (D.str w0 :: D.str w1 :: List.map D.str [v]) 2 = some (.str v) from rfl, el_some]
      walk_at "dl"
      have fl : ∀ z : Str, retD Q (.tup [.str w0, .str w1, .str z]) M := fun z => retD_of (h _ M (Ext.refl M) (.inl (by rw [flatN_tup]; exact flat_strs 7 [w0, w1, z])))
      cases decide (v = Str.ofString "read") with
      | true => walk_at "dl"; exact fl _
      | false => walk_at "dl"; exact fl _
  exact rest2h

/-! ### _law_spoilt(_law_rows, _law_cell, _law_more): 0 _law_rows, 1 _law_cell, 2 _law_more, 3 _law_way, 4 _law_place, 5 _law_behind, 6 _law_who, 7 _law_odd, 8 _law_one -/
def t_l_spoilt_10  : DSt :=
  (dRet (dOp oAdd (dOp oAdd (dSl (dVar 0) dNoPart (dPart (dVar 4))) (dLst (dCons (dVar 8) dNil))) (dSl (dVar 0) (dPart (dOp oAdd (dVar 4) (dC (.int 1)))) dNoPart)))
def t_l_spoilt_9  : DSt :=
  (dSeq (dSet 8 (dFn m_l_other_row (dCons (dOp oIx (dVar 0) (dVar 4)) (dCons (dVar 3) (dCons (dVar 2) (dCons (dOp oIx (dVar 0) (dOp oSub (dVar 4) (dC (.int 1)))) dNil))))))
  t_l_spoilt_10)
def t_l_spoilt_8  : DSt :=
  (dSeq (dIfS (dB (dOp oEq (dVar 3) (dC (.int 8)))) (dSeq (dSet 6 (dOp oIx (dOp oIx (dVar 0) (dVar 4)) (dC (.int 1))))
  (dSeq (dSet 7 (dLstM (dCons (dTup (dCons (dC (.str "left")) (dCons (dVar 6) dNil))) (dCons (dTup (dCons (dC (.str "asked")) (dCons (dVar 6) dNil))) (dCons (dTup (dCons (dC (.str "came")) (dCons (dC (.str "new1")) (dCons (dC (.str "read")) dNil)))) dNil)))))
  (dSeq (dExpr (dMet isLst oAppend (dVar 7) (dCons (dTup (dCons (dC (.str "begins")) (dCons (dC (.str "new1")) (dCons (dC (.str "read")) dNil)))) dNil)))
  (dRet (dOp oAdd (dOp oAdd (dSl (dVar 0) dNoPart (dPart (dVar 4))) (dLst (dCons (dOp oIx (dVar 7) (dOp oMod (dVar 2) (dC (.int 4)))) dNil))) (dSl (dVar 0) (dPart (dVar 4)) dNoPart)))))) dNext)
  t_l_spoilt_9)
def t_l_spoilt_7  : DSt :=
  (dSeq (dIfS (dB (dOp oEq (dVar 3) (dC (.int 7)))) (dRet (dSl (dVar 0) dNoPart (dPart (dVar 4)))) dNext)
  t_l_spoilt_8)
def t_l_spoilt_6  : DSt :=
  (dSeq (dIfS (dB (dOp oEq (dVar 3) (dC (.int 3)))) (dSeq (dSet 5 (dSl (dVar 0) (dPart (dOp oAdd (dVar 4) (dC (.int 1)))) dNoPart))
  (dRet (dOp oAdd (dOp oAdd (dOp oAdd (dSl (dVar 0) dNoPart (dPart (dVar 4))) (dSl (dVar 5) dNoPart (dPart (dC (.int 1))))) (dLst (dCons (dOp oIx (dVar 0) (dVar 4)) dNil))) (dSl (dVar 5) (dPart (dC (.int 1))) dNoPart)))) dNext)
  t_l_spoilt_7)
def t_l_spoilt_5  : DSt :=
  (dSeq (dIfS (dB (dOp oEq (dVar 3) (dC (.int 2)))) (dRet (dOp oAdd (dSl (dVar 0) dNoPart (dPart (dOp oAdd (dVar 4) (dC (.int 1))))) (dSl (dVar 0) (dPart (dVar 4)) dNoPart))) dNext)
  t_l_spoilt_6)
def t_l_spoilt_4  : DSt :=
  (dSeq (dIfS (dB (dOp oEq (dVar 3) (dC (.int 1)))) (dRet (dOp oAdd (dSl (dVar 0) dNoPart (dPart (dVar 4))) (dSl (dVar 0) (dPart (dOp oAdd (dVar 4) (dC (.int 1)))) dNoPart))) dNext)
  t_l_spoilt_5)
def t_l_spoilt_3  : DSt :=
  (dSeq (dSet 4 (dOp oMod (dOp oDiv (dVar 1) (dC (.int 12))) (dCall (on1 lenD) (dCons (dVar 0) dNil))))
  t_l_spoilt_4)
def t_l_spoilt_2  : DSt :=
  (dSeq (dIfS (dB (dOp oEq (dVar 3) (dC (.int 9)))) (dRet (dFn m_l_misspelt (dCons (dVar 0) (dCons (dVar 2) dNil)))) dNext)
  t_l_spoilt_3)
def t_l_spoilt_1  : DSt :=
  (dSeq (dIfS (dOr (dB (dOp oEq (dVar 0) (dLst dNil))) (dOr (dB (dOp oEq (dVar 3) (dC (.int 0)))) (dB (dOp oGt (dVar 3) (dC (.int 9)))))) (dRet (dVar 0)) dNext)
  t_l_spoilt_2)
def t_l_spoilt  : DSt :=
  (dSeq (dSet 3 (dOp oMod (dVar 1) (dC (.int 12))))
  t_l_spoilt_1)
local macro_rules | `(tactic| walk_at "un") => `(tactic| simp only [t_l_spoilt_10, t_l_spoilt_9, t_l_spoilt_8, t_l_spoilt_7, t_l_spoilt_6, t_l_spoilt_5, t_l_spoilt_4, t_l_spoilt_3, t_l_spoilt_2, t_l_spoilt_1, t_l_spoilt])
def m_l_spoilt : FDm := fun ds M Q _ => ∃ (rws : List Rw) (cell more : Int), ds = [.lst (eRows rws), .int cell, .int more] ∧ RowsOk rws ∧ rws.length ≤ 100000 ∧ ∀ (ds' : List D) (M' : Mem), Ext M M' → ds'.length ≤ 3 * rws.length + 3 → (∀ d ∈ ds', itemF M' d) → Q (.lst ds') M'
theorem len_l_spoilt : ∀ ds M Q X, m_l_spoilt ds M Q X → ds.length = 3 := fun ds M Q X ⟨_, _, _, h, _⟩ => by subst h; rfl
theorem nth_pred {α : Type} {xs : List α} {i : Int} (h0 : 0 ≤ i) (h1 : i < xs.length) : ∃ d ∈ xs, nth xs (i - 1) = some d := by
  by_cases h : i = 0
  · subst h
    refine ⟨xs[xs.length - 1]'(by omega), List.getElem_mem _, ?_⟩
    show (if 0 + 1 ≤ xs.length then xs[xs.length - (0 + 1)]? else none) = _
    rw [if_pos (by omega), List.getElem?_eq_getElem (by omega)]
  · rw [nth_toNat _ (by omega)]
    have : (i - 1).toNat < xs.length := by omega
    exact ⟨_, List.getElem_mem this, List.getElem?_eq_getElem this⟩
theorem read_l_spoilt : ∀ ds M Q X, m_l_spoilt ds M Q X → t_l_spoilt (bodyE Q X) (startD 9 ds) M := by
  rintro ds M Q X ⟨rws, cell, more, rfl, hro, hl, h⟩
  have ll := len_eRows rws
  have hitem : ∀ {M' : Mem} {d : D}, d ∈ eRows rws → itemF M' d := fun hd => item_rows hd
  have self : retD Q (.lst (eRows rws)) M := retD_of (h _ M (Ext.refl M) (by rw [ll]; omega) fun d hd => hitem hd)
  unfold t_l_spoilt
  walk_at "dl"
  unfold t_l_spoilt_1
  walk_at "dl"
  refine ⟨flat_eRows _, rfl, ?_⟩
  rw [eqv_nil]
  cases he : (eRows rws).isEmpty with
  | true => exact self
  | false =>
  have hpos : 0 < (eRows rws).length := by
    cases q : eRows rws with
    | nil => rw [q] at he; cases he
    | cons _ _ => simp
  walk_at "dl"
  refine cond_of (fun _ => self) fun _ => ?_
  refine cond_of (fun _ => self) fun _ => ?_
  unfold t_l_spoilt_2
  walk_at "dl"
  refine cond_of (fun _ => ?_) fun _ => ?_
  · refine ⟨rws, more, rfl, hl, fun ds' g1 g2 => ?_⟩
    exact retD_of (h ds' M (Ext.refl M) g1 fun d hd => .inl (g2 d hd))
  unfold t_l_spoilt_3
  walk_at "dl"
  refine ⟨by omega, ?_⟩
  generalize hn : (eRows rws).length = n at *
  have p0 := Int.emod_nonneg (cell / 12) (show (n : Int) ≠ 0 by omega)
  have p1 := Int.emod_lt_of_pos (cell / 12) (show (0 : Int) < (n : Int) by omega)
  obtain ⟨r1, hr1, er1⟩ : ∃ x ∈ rws, nth (eRows rws) (cell / 12 % (n : Int)) = some (eR x) := by
    obtain ⟨d, hd, e⟩ := nth_mod (eRows rws) (cell / 12) n hn hpos
    unfold eRows at hd
    obtain ⟨x, hx, rfl⟩ := List.mem_map.mp hd
    exact ⟨x, hx, e⟩
  obtain ⟨r2, hr2, er2⟩ : ∃ x ∈ rws, nth (eRows rws) (cell / 12 % (n : Int) - 1) = some (eR x) := by
    obtain ⟨d, hd, e⟩ := nth_pred (xs := eRows rws) p0 (by rw [hn]; exact p1)
    unfold eRows at hd
    obtain ⟨x, hx, rfl⟩ := List.mem_map.mp hd
    exact ⟨x, hx, e⟩
  generalize cell / 12 % (n : Int) = place at *
  have cl : ∀ lo hi, (dcut (eRows rws) lo hi).length ≤ n := fun lo hi => by
    have := dcut_len (eRows rws) lo hi
    omega
  have ci : ∀ {M' : Mem} (lo hi : Option Int), ∀ d ∈ dcut (eRows rws) lo hi, itemF M' d := fun lo hi d hd => .inl (flat_dcut d hd)
  have two : ∀ {M' : Mem} {A B : List D}, (∀ d ∈ A, itemF M' d) → (∀ d ∈ B, itemF M' d) → ∀ d ∈ A ++ B, itemF M' d := fun hA hB d hd => by
    rcases List.mem_append.mp hd with e | e
    · exact hA d e
    · exact hB d e
  have one : ∀ {M' : Mem} {b : D}, itemF M' b → ∀ d ∈ [b], itemF M' d := fun hb d hd => by
    rw [List.mem_singleton.mp hd]
    exact hb
  unfold t_l_spoilt_4
  walk_at "dl"
  refine cond_of (fun _ => ?_) fun _ => ?_
  · have a1 := cl none (some place)
    have a2 := cl (some (place + 1)) none
    refine ⟨by rw [sizeLine_eq]; omega, retD_of (h _ M (Ext.refl M) (by rw [List.length_append]; omega) (two (ci _ _) (ci _ _)))⟩
  unfold t_l_spoilt_5
  walk_at "dl"
  refine cond_of (fun _ => ?_) fun _ => ?_
  · have a1 := cl none (some (place + 1))
    have a2 := cl (some place) none
    refine ⟨by rw [sizeLine_eq]; omega, retD_of (h _ M (Ext.refl M) (by rw [List.length_append]; omega) (two (ci _ _) (ci _ _)))⟩
  unfold t_l_spoilt_6
  walk_at "dl"
  refine cond_of (fun _ => ?_) fun _ => ?_
  · have a1 := cl none (some place)
    have a2 := cl (some (place + 1)) none
    have a3 := dcut_len (dcut (eRows rws) (some (place + 1)) none) none (some 1)
    have a4 := dcut_len (dcut (eRows rws) (some (place + 1)) none) (some 1) none
    refine ⟨by rw [sizeLine_eq]; omega, ?_⟩
    rw [er1, el_some]
    have b1 : ([eR r1] : List D).length = 1 := rfl
    refine ⟨by rw [List.length_append, sizeLine_eq]; omega, by rw [List.length_append, List.length_append, sizeLine_eq]; omega, ?_⟩
    refine retD_of (h _ M (Ext.refl M) (by rw [List.length_append, List.length_append, List.length_append]; omega) ?_)
    exact two (two (two (ci _ _) (fun d hd => ci _ _ d (mem_dcut hd))) (one (.inl (flat_row r1)))) (fun d hd => ci _ _ d (mem_dcut hd))
  unfold t_l_spoilt_7
  walk_at "dl"
  refine cond_of (fun _ => ?_) fun _ => ?_
  · have a1 := cl none (some place)
    exact retD_of (h _ M (Ext.refl M) (by omega) (ci _ _))
  unfold t_l_spoilt_8
  walk_at "dl"
  refine cond_of (fun _ => ?_) fun _ => ?_
  · rw [er1, el_some]
    obtain ⟨w0, w1, rest, ex, _, _⟩ := row_two r1
    rw [ex]
    walk_at "dl"
    intro q hq
    have a1 := cl none (some place)
    have a2 := cl (some place) none
    refine ⟨by rw [sizeLine_eq]; show 3 < _; omega, ?_⟩
    generalize hL : ([D.tup [D.str (Str.ofString "left"), D.str w1], D.tup [D.str (Str.ofString "asked"), D.str w1], D.tup [D.str (Str.ofString "came"), D.str (Str.ofString "new1"), D.str (Str.ofString "read")]] ++ [D.tup [D.str (Str.ofString "begins"), D.str (Str.ofString "new1"), D.str (Str.ofString "read")]] : List D) = L
    have hf : L.all (flatN 8) = true := by
      rw [← hL]
      simp only [List.cons_append, List.nil_append, List.all_cons, List.all_nil, flatN_tup, flatL_cons, flatL_nil, flatN_str, Bool.and_self]
    obtain ⟨d, hd, en⟩ := nth_mod L more 4 (by rw [← hL]; rfl) (by decide)
    rw [show nth L (more % 4) = some d from en, el_some]
    have b1 : ([d] : List D).length = 1 := rfl
    refine ⟨by rw [sizeLine_eq]; omega, by rw [List.length_append, sizeLine_eq]; omega, ?_⟩
    exact retD_of (h _ _ (Ext.set hq) (by rw [List.length_append, List.length_append]; omega) (two (two (ci _ _) (one (.inl (List.all_eq_true.mp hf d hd)))) (ci _ _)))
  unfold t_l_spoilt_9
  walk_at "dl"
  rw [er1, el_some]
  rw [er2, el_some]
  refine ⟨r1, r2, _, _, rfl, hro r1 hr1, hro r2 hr2, fun d M' x1 hd => ?_⟩
  unfold t_l_spoilt_10
  walk_at "dl"
  have a1 := cl none (some place)
  have a2 := cl (some (place + 1)) none
  have b1 : ([d] : List D).length = 1 := rfl
  refine ⟨by rw [sizeLine_eq]; omega, by rw [List.length_append, sizeLine_eq]; omega, ?_⟩
  exact retD_of (h _ M' x1 (by rw [List.length_append, List.length_append]; omega) (two (two (ci _ _) (one hd)) (ci _ _)))

/-! ### is_row(row): 0 row, 1 word -/
def t_is_row_L1  : DSt :=
  (dIfS (dNot (dB (dCall (on2 isiD) (dCons (dVar 1) (dCons (dC (.ty "str")) dNil))))) (dRet (dC (.bl false))) dNext)
def t_is_row_3  : DSt :=
  (dRet (dOrV (dOp oEq (dOp oIx (dVar 0) (dC (.int 0))) (dC (.str "left"))) (dOrV (dOp oEq (dOp oIx (dVar 0) (dC (.int 0))) (dC (.str "asked"))) (dOp oEq (dOp oIx (dVar 0) (dC (.int 0))) (dC (.str "eased"))))))
def t_is_row_2  : DSt :=
  (dSeq (dIfS (dB (dOp oEq (dCall (on1 lenD) (dCons (dVar 0) dNil)) (dC (.int 3)))) (dRet (dOrV (dOp oEq (dOp oIx (dVar 0) (dC (.int 0))) (dC (.str "came"))) (dOp oEq (dOp oIx (dVar 0) (dC (.int 0))) (dC (.str "begins"))))) dNext)
  t_is_row_3)
def t_is_row_1  : DSt :=
  (dSeq (dFor (dItems (dVar 0)) (dgName 1) t_is_row_L1)
  t_is_row_2)
def t_is_row  : DSt :=
  (dSeq (dIfS (dOr (dNot (dB (dCall (on2 isiD) (dCons (dVar 0) (dCons (dC (.ty "tuple")) dNil))))) (dNot (dB (dChain oLe oLe (dC (.int 2)) (dCall (on1 lenD) (dCons (dVar 0) dNil)) (dC (.int 3)))))) (dRet (dC (.bl false))) dNext)
  t_is_row_1)
local macro_rules | `(tactic| walk_at "un") => `(tactic| simp only [t_is_row_3, t_is_row_2, t_is_row_1, t_is_row])
def m_is_row : FDm := fun ds M Q _ => ∃ d : D, ds = [d] ∧ itemF M d ∧ Q (.bl (parseD d).isSome) M
theorem len_is_row : ∀ ds M Q X, m_is_row ds M Q X → ds.length = 1 := fun ds M Q X ⟨_, h, _⟩ => by subst h; rfl
theorem read_is_row : ∀ ds M Q X, m_is_row ds M Q X → t_is_row (bodyE Q X) (startD 2 ds) M := by
  rintro ds M Q X ⟨d, rfl, hi, h⟩
  unfold t_is_row
  rcases hi with hf | ⟨a, kvs, rfl, hi⟩
  rotate_left
  · walk_at "dl"
    rw [res_objD hi]
    walk_at "dl"
    exact retD_of h
  have hd : rowOk d = true := by
    cases d with
    | tup l => exact flat_tup_all hf
    | non => rfl
    | bl b => rfl
    | int b => rfl
    | str b => rfl
    | lst b => rfl
    | _ => simp [flatN] at hf
  cases d with
  | scr b => cases hd
  | obj b => cases hd
  | ty b => cases hd
  | tup l =>
    have hd : l.all okD = true := hd
    have no : parseD (.tup l) = none → retD Q (.bl false) M := fun e => by
      rw [e] at h
      exact retD_of h
    walk_at "dl"
    have r1 : 2 ≤ l.length → l.length ≤ 3 → t_is_row_1 (bodyE Q X) [some (.tup l), none] M := fun l1 l2 => by
      unfold t_is_row_1
      walk_at "dl"
      refine ⟨fun k δ M' => M' = M ∧ (∀ (j : Nat) (x : D), j < k → l[j]? = some x → isStrD x = true) ∧ ∃ o : Option D, δ = [some (.tup l), o], ⟨rfl, fun j x hj => absurd hj (Nat.not_lt_zero _), _, rfl⟩, ?_, ?_⟩
      · rintro k x δ M' hx ⟨rfl, hj, o, rfl⟩
        refine ⟨trivial, ?_⟩
        have hm := List.mem_of_getElem? hx
        have hk := List.all_eq_true.mp hd x hm
        have go : isStrD x = true → ∃ o : Option D, [some (D.tup l), some x] = [some (.tup l), o] := fun _ => ⟨_, rfl⟩
        unfold t_is_row_L1
        cases x with
        | scr b => cases hk
        | obj b => cases hk
        | ty b => cases hk
        | str z =>
          walk_at "dl"
          refine ⟨fun j x hjk hx2 => ?_, _, rfl⟩
          by_cases e : j = k
          · subst e
            rw [hx] at hx2
            cases hx2; rfl
          · exact hj j x (by omega) hx2
        | _ =>
          walk_at "dl"
          exact no (parse_nostr hm rfl)
      · rintro δ M' ⟨rfl, hj, o, rfl⟩
        refine ⟨trivial, ?_⟩
        obtain ⟨ss, rfl⟩ := all_strs (l := l) fun x hx => by
          obtain ⟨j, hjx⟩ := List.getElem?_of_mem hx
          exact hj j x (List.getElem?_eq_some_iff.mp hjx).1 hjx
        rw [List.length_map] at l1 l2
        unfold t_is_row_2
        match ss, l1, l2 with
        | [w, x], _, _ =>
          have h : Q (.bl (parse2 w x).isSome) M' := h
          walk_at "dl"
          rw [show decide ((([D.str w, D.str x] : List D).length : Int) = 3) = false from rfl, cond_false]
          unfold t_is_row_3
          walk_at "dl"
          unfold parse2 at h
          refine cond_dec (fun e => ?_) fun e => ?_
          · rw [if_pos e] at h; exact retD_of h
          · rw [if_neg e] at h
            refine cond_dec (fun e => ?_) fun e => ?_
            · rw [if_pos e] at h; exact retD_of h
            · rw [if_neg e] at h
              by_cases e : w = Str.ofString "eased"
              · rw [if_pos e] at h; rw [decide_eq_true e]; exact retD_of h
              · rw [if_neg e] at h; rw [decide_eq_false e]; exact retD_of h
        | [w, x, y], _, _ =>
          have h : Q (.bl (parse3 w x y).isSome) M' := h
          walk_at "dl"
          rw [show decide ((([D.str w, D.str x, D.str y] : List D).length : Int) = 3) = true from rfl, cond_true]
          unfold parse3 at h
          refine cond_dec (fun e => ?_) fun e => ?_
          · rw [if_pos e] at h; exact retD_of h
          · rw [if_neg e] at h
            by_cases e : w = Str.ofString "begins"
            · rw [if_pos e] at h; rw [decide_eq_true e]; exact retD_of h
            · rw [if_neg e] at h; rw [decide_eq_false e]; exact retD_of h
    have bad : ¬ (2 ≤ l.length ∧ l.length ≤ 3) → parseD (.tup l) = none := fun hn => by
      cases e : parseD (.tup l) with
      | none => rfl
      | some w => exact absurd (parse_len e) hn
    refine cond_dec (fun e => ?_) fun e => ?_
    · by_cases e2 : (l.length : Int) ≤ 3
      · rw [decide_eq_true e2]
        exact r1 (by omega) (by omega)
      · rw [decide_eq_false e2]
        exact no (bad (by omega))
    · exact no (bad (by omega))
  | _ =>
    walk_at "dl"
    exact retD_of h

/-! ### is_name(thing): 0 thing, 1 sign -/
def t_is_name_L1  : DSt :=
  (dIfS (dB (dOp oNotIn (dVar 1) (dC (.str "abcdefghijklmnopqrstuvwxyz0123456789")))) (dRet (dC (.bl false))) dNext)
def t_is_name_2  : DSt :=
  (dRet (dC (.bl true)))
def t_is_name_1  : DSt :=
  (dSeq (dFor (dItems (dVar 0)) (dgName 1) t_is_name_L1)
  t_is_name_2)
def t_is_name  : DSt :=
  (dSeq (dIfS (dOr (dNot (dB (dCall (on2 isiD) (dCons (dVar 0) (dCons (dC (.ty "str")) dNil))))) (dNot (dB (dChain oLe oLe (dC (.int 1)) (dCall (on1 lenD) (dCons (dVar 0) dNil)) (dC (.int 12)))))) (dRet (dC (.bl false))) dNext)
  t_is_name_1)
local macro_rules | `(tactic| walk_at "un") => `(tactic| simp only [t_is_name_2, t_is_name_1, t_is_name])
def m_is_name : FDm := fun ds M Q _ => match ds with
  | [d] => okD d = true ∧ Q (.bl (isName d)) M
  | _ => False
theorem len_is_name : ∀ ds M Q X, m_is_name ds M Q X → ds.length = 1 := fun ds M Q X h => by
  unfold m_is_name at h
  split at h <;> first | rfl | exact h.elim
theorem name_loop {E : DEnds} {M : Mem} {d : D} : ∀ (cs : List Nat) (o : Option D), (cs.all (fun c => decide (c ∈ signsL)) = true → ∀ o, E.nx [some d, o] M) → (cs.all (fun c => decide (c ∈ signsL)) = false → E.rt (.bl false) M) →
    forL (dgName 1) (dIfS (dB (dOp oNotIn (dVar 1) (dC (.str "abcdefghijklmnopqrstuvwxyz0123456789")))) (dRet (dC (.bl false))) dNext) E (cs.map fun c => .str ⟨#[c]⟩) [some d, o] M
  | [], o, h1, _ => h1 rfl o
  | c :: cs, o, h1, h2 => by
    rw [List.map_cons]
    rw [List.all_cons] at h1 h2
    unfold forL
    simp only [dgName, List.set_cons_zero, List.set_cons_succ, dIfS, dB, dOp, dVar, slot, el_some, dC, oNotIn, oInN_eq, res_str, inR_str, asB_bl, dRet, dNext, cond_true]
    refine cond_of (fun hc => ?_) fun hc => ?_
    · refine h2 ?_
      have : decide (c ∈ signsL) = false := by simpa [signsL] using hc
      rw [this]
      rfl
    · have hc' : decide (c ∈ signsL) = true := by simpa [signsL] using hc
      rw [hc', Bool.true_and] at h1 h2
      exact name_loop (E := E) cs _ h1 h2
theorem read_is_name : ∀ ds M Q X, m_is_name ds M Q X → t_is_name (bodyE Q X) (startD 2 ds) M := by
  intro ds M Q X h
  unfold m_is_name at h
  split at h
  rotate_left
  · exact h.elim
  rename_i d
  obtain ⟨hd, h⟩ := h
  walk_at "un"
  cases d with
  | str z =>
    simp only [dSeq, dIfS, dOr, dNot, dB, dCall, dCons, dNil, dVar, startD, slot, el_some, dC, on2_cons, res_str, res_ty, isiD_ty, isB_str_str, asB_bl, dChain, on1_cons, lenD_str, oLe, oInt0_eq, res_int, int0R_int, Bool.not_true, Bool.not_false, cond_true, cond_false, dRet, dNext, dFor, dItems, itemsOf_str]
    have hn : isName (.str z) = nameOk z := rfl
    rw [hn] at h
    unfold nameOk at h
    refine cond_of (fun h1 => cond_of (fun h2 => ?_) fun h2 => ?_) fun h1 => ?_
    · have h2' : ¬ z.length ≤ 12 := by
        have : ¬ ((z.length : Int) ≤ 12) := by simpa using h2
        omega
      rw [decide_eq_false h2', Bool.and_false, Bool.false_and] at h
      exact retD_of h
    · have h2' : z.length ≤ 12 := by
        have : ((z.length : Int) ≤ 12) := by simpa using h2
        omega
      have h1' : 1 ≤ z.length := by
        have : (1 ≤ (z.length : Int)) := by simpa using h1
        omega
      rw [decide_eq_true h1', decide_eq_true h2', Bool.true_and, Bool.true_and] at h
      unfold signsD
      unfold t_is_name_L1
      refine forI_of (name_loop _ _ (fun ha o => ?_) fun ha => ?_)
      · rw [ha] at h
        exact retD_of h
      · rw [ha] at h
        exact retD_of h
    · have h1' : ¬ 1 ≤ z.length := by
        have : ¬ (1 ≤ (z.length : Int)) := by simpa using h1
        omega
      rw [decide_eq_false h1', Bool.false_and, Bool.false_and] at h
      exact retD_of h
  | non => walk_at "dl"; exact retD_of h
  | bl b => walk_at "dl"; exact retD_of h
  | int b => walk_at "dl"; exact retD_of h
  | lst b => walk_at "dl"; exact retD_of h
  | tup b => walk_at "dl"; exact retD_of h
  | dic b => walk_at "dl"; exact retD_of h
  | scr b => cases hd
  | obj b => cases hd
  | ty b => cases hd
-- SIMP m_is_name

local macro_rules | `(tactic| walk_at "dl") => `(tactic| try simp -implicitDefEqProofs only [DL.dNext, DL.dSeq, DL.dExpr, DL.dRet, DL.dIfS, DL.dSet, DL.dCont, DL.dRaise, DL.dFor, DL.dgName, DL.dgPair, DL.dTry, DL.dFn, DL.dMth, DL.dMk, DL.dFld, DL.dFldS, DL.dPut, DL.dVar, DL.slot, DL.dC, DL.dOp, DL.dUn, DL.oSub, DL.oMul, DL.oDiv, DL.oMod, DL.oPow, DL.oLt, DL.oLe, DL.oGt, DL.oGe, DL.oEq, DL.oNe, DL.oIn, DL.oNotIn, DL.dB, DL.dIsN, DL.dChain, DL.dAnd, DL.dOr, DL.dNot, DL.dAndV, DL.dOrV, DL.dNotV, DL.dIf, DL.dNil, DL.dCons, DL.few, DL.dLst, DL.dTup, DL.dLstM, DL.dFrz, DL.dPairs, DL.dDisp, DL.dDic0, DL.dSl, DL.dNoPart, DL.dCall, DL.dMet0L, DL.dMet, DL.dItems, DL.dRange1, DL.dEnum, DL.dLcM, DL.dwipe, DL.startD, DL.dNever, DL.el_some, DL.elL_lst, DL.elD_dic, DL.elI_ins, DL.res_non, DL.res_bl, DL.res_int, DL.res_str, DL.res_lst, DL.res_tupE, DL.res_dic, DL.res_scr, DL.res_ty, DL.oAdd_eq, DL.addR_int, DL.addR_str, DL.addR_lst, DL.addR_tup, DL.oAddM_eq, DL.addMR_lst, DL.oInt_eq, DL.intR_int, DL.oInt0_eq, DL.int0R_int, DL.oNeg_eq, DL.negR_int, DL.oEqN_eq, DL.eqR_some, DL.eqR_none, DL.eqS_non_non, DL.eqS_non_int, DL.eqS_non_bl, DL.eqS_non_str, DL.eqS_non_lst, DL.eqS_non_tup, DL.eqS_int_non, DL.eqS_int_int, DL.eqS_int_bl, DL.eqS_int_str, DL.eqS_int_lst, DL.eqS_int_tup, DL.eqS_bl_non, DL.eqS_bl_int, DL.eqS_bl_bl, DL.eqS_bl_str, DL.eqS_bl_lst, DL.eqS_bl_tup, DL.eqS_str_non, DL.eqS_str_int, DL.eqS_str_bl, DL.eqS_str_str, DL.eqS_str_lst, DL.eqS_str_tup, DL.eqS_lst_non, DL.eqS_lst_int, DL.eqS_lst_bl, DL.eqS_lst_str, DL.eqS_lst_lst, DL.eqS_lst_tup, DL.eqS_tup_non, DL.eqS_tup_int, DL.eqS_tup_bl, DL.eqS_tup_str, DL.eqS_tup_lst, DL.eqS_tup_tup, DL.eqS_obj_non, DL.eqS_non_obj, DL.eqS_obj_int, DL.eqS_int_obj, DL.eqS_obj_bl, DL.eqS_bl_obj, DL.eqS_obj_str, DL.eqS_str_obj, DL.eqS_obj_lst, DL.eqS_lst_obj, DL.eqS_obj_tup, DL.eqS_tup_obj, DL.eqS_obj_obj, DL.oInN_eq, DL.inR_lst, DL.inR_tup, DL.inR_str, DL.flatD_non, DL.flatD_bl, DL.flatD_int, DL.flatD_str, DL.asB_bl, DL.isN_non, DL.isN_bl, DL.isN_int, DL.isN_str, DL.isN_lst, DL.isN_tup, DL.isN_dic, DL.isN_scr, DL.isN_ty, DL.isN_obj, DL.frz_non, DL.frz_bl, DL.frz_int, DL.frz_str, DL.frz_lst, DL.frz_tup, DL.frz_dic, DL.frz_scr, DL.frz_ty, DL.oIx_eq, DL.ixR_lst, DL.ixR_tup, DL.ixR_scr, DL.ixR_str, DL.ixR_dic, DL.nth_0, DL.nth_1, DL.nth_2, DL.nth_3, DL.oSl_eq, DL.slR_lst, DL.slR_tup, DL.slR_str, DL.dPart_eq, DL.partR_int, DL.on1_cons, DL.on2_cons, DL.lenD_lst, DL.lenD_tup, DL.lenD_scr, DL.lenD_str, DL.intD_int, DL.intD_bl, DL.strD_int, DL.int2_int, DL.listM_lst, DL.listF_lst, DL.listM_tup, DL.listF_tup, DL.dictM_dic, DL.isiD_ty, DL.oAppend_obj, DL.oInsert_obj, DL.oPop_obj, DL.oPopAt_obj, DL.isLst_eq, DL.isLstR_lst, DL.isStr_str, DL.oSplit_str, DL.oJoin_str, DL.itemsOf_lst, DL.itemsOf_tup, DL.itemsOf_str, DL.rng1_int, DL.enumOf_lst, DL.two_tup, DL.insIs_obj, DL.getFld_obj, DL.setFld_obj, DL.putDic_obj, DL.isB_str_non, DL.isB_str_bl, DL.isB_str_int, DL.isB_str_str, DL.isB_str_lst, DL.isB_str_tup, DL.isB_str_dic, DL.isB_int_non, DL.isB_int_bl, DL.isB_int_int, DL.isB_int_str, DL.isB_int_lst, DL.isB_int_tup, DL.isB_int_dic, DL.isB_bool_non, DL.isB_bool_bl, DL.isB_bool_int, DL.isB_bool_str, DL.isB_bool_lst, DL.isB_bool_tup, DL.isB_bool_dic, DL.isB_list_non, DL.isB_list_bl, DL.isB_list_int, DL.isB_list_str, DL.isB_list_lst, DL.isB_list_tup, DL.isB_list_dic, DL.isB_tuple_non, DL.isB_tuple_bl, DL.isB_tuple_int, DL.isB_tuple_str, DL.isB_tuple_lst, DL.isB_tuple_tup, DL.isB_tuple_dic, Bool.cond_true, Bool.cond_false, L2.CDiv, Int.reduceLT, Int.reduceLE, true_and, and_true, cond_true, cond_false, List.map_cons, List.map_nil, List.set_cons_zero, List.set_cons_succ, List.set_nil, DL.cpow_109, DL.pow_109, DL.frz_set_lst, DL.frz_set_dic, Bool.not_true, Bool.not_false, DL.itemsOf_obj, DL.enumOf_obj, DL.all_still, okD_non, okD_bl, okD_int, okD_str, okD_lst, okD_tup, okD_dic, res_set_lst, Mem.set_same, Mem.set_set, lk_seats, lk_patience, lk_reading, lk_alone, lk_asking, lk_waiting, lk_rows, no_is_inside, no_is_waiting, no_look, no_come, no_leave, no_ask, no_ease, no_settled, no_begun, no_readers, no_writer, no_asker, no_line, no_passed, no_journal, dp_reading, dp_reading0, dp_reading1, dp_alone, dp_alone0, dp_asking, dp_asking0, dp_waiting, dp_rows, few_flds, eNames, isN_optS, res_optS, optS_some, optS_none, Option.isNone_none, Option.isNone_some, ln_queue, ln_reading, ln_alone, ln_asked, dn_queue, dn_reading, dn_reading0, dn_reading1, dn_aloneO, dn_alone, dn_alone0, dn_asked, dn_asked0, few_eN, nod_eN, eqS_optS2, m_l_cell_at, Int.reduceLE, m_l_number_by, m_l_seats, m_l_patience, m_l_people, m_l_names, m_l_wish_by, m_l_crowd, m_is_name])
/-! ### is_wish(thing): 0 thing -/
def t_is_wish  : DSt :=
  (dRet (dAndV (dCall (on2 isiD) (dCons (dVar 0) (dCons (dC (.ty "str")) dNil))) (dOrV (dOp oEq (dVar 0) (dC (.str "read"))) (dOp oEq (dVar 0) (dC (.str "write"))))))
local macro_rules | `(tactic| walk_at "un") => `(tactic| simp only [t_is_wish])
def m_is_wish : FDm := fun ds M Q _ => match ds with
  | [d] => okD d = true ∧ Q (.bl (isWish d)) M
  | _ => False
theorem len_is_wish : ∀ ds M Q X, m_is_wish ds M Q X → ds.length = 1 := fun ds M Q X h => by
  unfold m_is_wish at h
  split at h <;> first | rfl | exact h.elim
theorem read_is_wish : ∀ ds M Q X, m_is_wish ds M Q X → t_is_wish (bodyE Q X) (startD 1 ds) M := by
  intro ds M Q X h
  unfold m_is_wish at h
  split at h
  rotate_left
  · exact h.elim
  rename_i d
  obtain ⟨hd, h⟩ := h
  walk_at "un"
  cases d with
  | str z =>
    walk_at "dl"
    have hw : isWish (.str z) = (decide (z = Str.ofString "read") || decide (z = Str.ofString "write")) := rfl
    rw [hw] at h
    refine cond_dec (fun h1 => ?_) fun h1 => ?_
    · rw [decide_eq_true h1, Bool.true_or] at h
      exact retD_of h
    · rw [decide_eq_false h1, Bool.false_or] at h
      exact retD_of h
  | non => walk_at "dl"; exact retD_of h
  | bl b => walk_at "dl"; exact retD_of h
  | int b => walk_at "dl"; exact retD_of h
  | lst b => walk_at "dl"; exact retD_of h
  | tup b => walk_at "dl"; exact retD_of h
  | dic b => walk_at "dl"; exact retD_of h
  | scr b => cases hd
  | obj b => cases hd
  | ty b => cases hd
-- SIMP m_is_wish

local macro_rules | `(tactic| walk_at "dl") => `(tactic| try simp -implicitDefEqProofs only [DL.dNext, DL.dSeq, DL.dExpr, DL.dRet, DL.dIfS, DL.dSet, DL.dCont, DL.dRaise, DL.dFor, DL.dgName, DL.dgPair, DL.dTry, DL.dFn, DL.dMth, DL.dMk, DL.dFld, DL.dFldS, DL.dPut, DL.dVar, DL.slot, DL.dC, DL.dOp, DL.dUn, DL.oSub, DL.oMul, DL.oDiv, DL.oMod, DL.oPow, DL.oLt, DL.oLe, DL.oGt, DL.oGe, DL.oEq, DL.oNe, DL.oIn, DL.oNotIn, DL.dB, DL.dIsN, DL.dChain, DL.dAnd, DL.dOr, DL.dNot, DL.dAndV, DL.dOrV, DL.dNotV, DL.dIf, DL.dNil, DL.dCons, DL.few, DL.dLst, DL.dTup, DL.dLstM, DL.dFrz, DL.dPairs, DL.dDisp, DL.dDic0, DL.dSl, DL.dNoPart, DL.dCall, DL.dMet0L, DL.dMet, DL.dItems, DL.dRange1, DL.dEnum, DL.dLcM, DL.dwipe, DL.startD, DL.dNever, DL.el_some, DL.elL_lst, DL.elD_dic, DL.elI_ins, DL.res_non, DL.res_bl, DL.res_int, DL.res_str, DL.res_lst, DL.res_tupE, DL.res_dic, DL.res_scr, DL.res_ty, DL.oAdd_eq, DL.addR_int, DL.addR_str, DL.addR_lst, DL.addR_tup, DL.oAddM_eq, DL.addMR_lst, DL.oInt_eq, DL.intR_int, DL.oInt0_eq, DL.int0R_int, DL.oNeg_eq, DL.negR_int, DL.oEqN_eq, DL.eqR_some, DL.eqR_none, DL.eqS_non_non, DL.eqS_non_int, DL.eqS_non_bl, DL.eqS_non_str, DL.eqS_non_lst, DL.eqS_non_tup, DL.eqS_int_non, DL.eqS_int_int, DL.eqS_int_bl, DL.eqS_int_str, DL.eqS_int_lst, DL.eqS_int_tup, DL.eqS_bl_non, DL.eqS_bl_int, DL.eqS_bl_bl, DL.eqS_bl_str, DL.eqS_bl_lst, DL.eqS_bl_tup, DL.eqS_str_non, DL.eqS_str_int, DL.eqS_str_bl, DL.eqS_str_str, DL.eqS_str_lst, DL.eqS_str_tup, DL.eqS_lst_non, DL.eqS_lst_int, DL.eqS_lst_bl, DL.eqS_lst_str, DL.eqS_lst_lst, DL.eqS_lst_tup, DL.eqS_tup_non, DL.eqS_tup_int, DL.eqS_tup_bl, DL.eqS_tup_str, DL.eqS_tup_lst, DL.eqS_tup_tup, DL.eqS_obj_non, DL.eqS_non_obj, DL.eqS_obj_int, DL.eqS_int_obj, DL.eqS_obj_bl, DL.eqS_bl_obj, DL.eqS_obj_str, DL.eqS_str_obj, DL.eqS_obj_lst, DL.eqS_lst_obj, DL.eqS_obj_tup, DL.eqS_tup_obj, DL.eqS_obj_obj, DL.oInN_eq, DL.inR_lst, DL.inR_tup, DL.inR_str, DL.flatD_non, DL.flatD_bl, DL.flatD_int, DL.flatD_str, DL.asB_bl, DL.isN_non, DL.isN_bl, DL.isN_int, DL.isN_str, DL.isN_lst, DL.isN_tup, DL.isN_dic, DL.isN_scr, DL.isN_ty, DL.isN_obj, DL.frz_non, DL.frz_bl, DL.frz_int, DL.frz_str, DL.frz_lst, DL.frz_tup, DL.frz_dic, DL.frz_scr, DL.frz_ty, DL.oIx_eq, DL.ixR_lst, DL.ixR_tup, DL.ixR_scr, DL.ixR_str, DL.ixR_dic, DL.nth_0, DL.nth_1, DL.nth_2, DL.nth_3, DL.oSl_eq, DL.slR_lst, DL.slR_tup, DL.slR_str, DL.dPart_eq, DL.partR_int, DL.on1_cons, DL.on2_cons, DL.lenD_lst, DL.lenD_tup, DL.lenD_scr, DL.lenD_str, DL.intD_int, DL.intD_bl, DL.strD_int, DL.int2_int, DL.listM_lst, DL.listF_lst, DL.listM_tup, DL.listF_tup, DL.dictM_dic, DL.isiD_ty, DL.oAppend_obj, DL.oInsert_obj, DL.oPop_obj, DL.oPopAt_obj, DL.isLst_eq, DL.isLstR_lst, DL.isStr_str, DL.oSplit_str, DL.oJoin_str, DL.itemsOf_lst, DL.itemsOf_tup, DL.itemsOf_str, DL.rng1_int, DL.enumOf_lst, DL.two_tup, DL.insIs_obj, DL.getFld_obj, DL.setFld_obj, DL.putDic_obj, DL.isB_str_non, DL.isB_str_bl, DL.isB_str_int, DL.isB_str_str, DL.isB_str_lst, DL.isB_str_tup, DL.isB_str_dic, DL.isB_int_non, DL.isB_int_bl, DL.isB_int_int, DL.isB_int_str, DL.isB_int_lst, DL.isB_int_tup, DL.isB_int_dic, DL.isB_bool_non, DL.isB_bool_bl, DL.isB_bool_int, DL.isB_bool_str, DL.isB_bool_lst, DL.isB_bool_tup, DL.isB_bool_dic, DL.isB_list_non, DL.isB_list_bl, DL.isB_list_int, DL.isB_list_str, DL.isB_list_lst, DL.isB_list_tup, DL.isB_list_dic, DL.isB_tuple_non, DL.isB_tuple_bl, DL.isB_tuple_int, DL.isB_tuple_str, DL.isB_tuple_lst, DL.isB_tuple_tup, DL.isB_tuple_dic, Bool.cond_true, Bool.cond_false, L2.CDiv, Int.reduceLT, Int.reduceLE, true_and, and_true, cond_true, cond_false, List.map_cons, List.map_nil, List.set_cons_zero, List.set_cons_succ, List.set_nil, DL.cpow_109, DL.pow_109, DL.frz_set_lst, DL.frz_set_dic, Bool.not_true, Bool.not_false, DL.itemsOf_obj, DL.enumOf_obj, DL.all_still, okD_non, okD_bl, okD_int, okD_str, okD_lst, okD_tup, okD_dic, res_set_lst, Mem.set_same, Mem.set_set, lk_seats, lk_patience, lk_reading, lk_alone, lk_asking, lk_waiting, lk_rows, no_is_inside, no_is_waiting, no_look, no_come, no_leave, no_ask, no_ease, no_settled, no_begun, no_readers, no_writer, no_asker, no_line, no_passed, no_journal, dp_reading, dp_reading0, dp_reading1, dp_alone, dp_alone0, dp_asking, dp_asking0, dp_waiting, dp_rows, few_flds, eNames, isN_optS, res_optS, optS_some, optS_none, Option.isNone_none, Option.isNone_some, ln_queue, ln_reading, ln_alone, ln_asked, dn_queue, dn_reading, dn_reading0, dn_reading1, dn_aloneO, dn_alone, dn_alone0, dn_asked, dn_asked0, few_eN, nod_eN, eqS_optS2, m_l_cell_at, Int.reduceLE, m_l_number_by, m_l_seats, m_l_patience, m_l_people, m_l_names, m_l_wish_by, m_l_crowd, m_is_name, m_is_wish])
/-! ### Room.is_waiting(self, name): 0 self, 1 name, 2 one -/
def t_room_is_waiting (A : Adr) : DSt :=
  (dRet (dOp oIn (dVar 1) (dLc (dItems (dFld A.Room "waiting" (dVar 0))) 2 dYes (dOp oIx (dVar 2) (dC (.int 0))))))
local macro_rules | `(tactic| walk_at "un") => `(tactic| simp only [t_room_is_waiting])
def m_room_is_waiting (A : Adr) : FDm := fun ds M Q _ => ∃ (a : Addr) (r : Rm) (z : Str), ds = [.obj a, .str z] ∧ At A M a r ∧ Q (.bl (waitsB r z)) M
theorem len_room_is_waiting (A : Adr) : ∀ ds M Q X, m_room_is_waiting A ds M Q X → ds.length = 2 := fun ds M Q X ⟨_, _, _, h, _⟩ => by subst h; rfl
theorem read_room_is_waiting (A : Adr) : ∀ ds M Q X, m_room_is_waiting A ds M Q X → t_room_is_waiting A (bodyE Q X) (startD 3 ds) M := by
  rintro ds M Q X ⟨a, r, z, rfl, ha, h⟩
  unfold t_room_is_waiting
  walk_at "dl"
  rw [show M a = _ from ha]
  walk_at "dl"
  refine lc_map fst (fun x hx M1 hs Qd q => ?_) ?_
  · unfold eLine at hx
    obtain ⟨w, hw, rfl⟩ := List.mem_map.mp hx
    unfold eW
    walk_at "dl"
    exact q
  · rw [fst_eLine]
    walk_at "dl"
    refine ⟨flatD_names _, ?_⟩
    rw [inD_names]
    exact retD_of h

/-! ### Room.is_inside(self, name): 0 self, 1 name -/
def t_room_is_inside (A : Adr) : DSt :=
  (dRet (dOrV (dOp oIn (dVar 1) (dFld A.Room "reading" (dVar 0))) (dAndV (dIsN true (dFld A.Room "alone" (dVar 0))) (dOp oEq (dVar 1) (dFld A.Room "alone" (dVar 0))))))
local macro_rules | `(tactic| walk_at "un") => `(tactic| simp only [t_room_is_inside])
def m_room_is_inside (A : Adr) : FDm := fun ds M Q _ => ∃ (a : Addr) (r : Rm) (z : Str), ds = [.obj a, .str z] ∧ At A M a r ∧ Q (.bl (insideB r z)) M
theorem len_room_is_inside (A : Adr) : ∀ ds M Q X, m_room_is_inside A ds M Q X → ds.length = 2 := fun ds M Q X ⟨_, _, _, h, _⟩ => by subst h; rfl
theorem read_room_is_inside (A : Adr) : ∀ ds M Q X, m_room_is_inside A ds M Q X → t_room_is_inside A (bodyE Q X) (startD 2 ds) M := by
  rintro ds M Q X ⟨a, r, z, rfl, ha, h⟩
  unfold t_room_is_inside
  walk_at "dl"
  rw [show M a = _ from ha]
  walk_at "dl"
  refine ⟨flatD_names _, ?_⟩
  rw [inD_names]
  unfold insideB at h
  refine cond_dec (fun e => ?_) fun e => ?_
  · rw [decide_eq_true e, Bool.true_or] at h
    exact retD_of h
  · rw [decide_eq_false e, Bool.false_or] at h
    rw [show M a = _ from ha]
    walk_at "dl"
    cases hr : r.alone with
    | none =>
      rw [hr, decide_eq_false (by simp)] at h
      exact retD_of h
    | some y =>
      rw [hr] at h
      show cond true _ _
      rw [cond_true]
      walk_at "dl"
      have : decide (some y = some z) = decide (z = y) := by
        by_cases e : z = y
        · subst e; simp
        · rw [decide_eq_false e, decide_eq_false (fun h => e (Option.some.inj h).symm)]
      rw [this] at h
      exact retD_of h

/-! ### can_begin(seats, reading, writes, wish): 0 seats, 1 reading, 2 writes, 3 wish -/
def t_can_begin_1  : DSt :=
  (dRet (dAndV (dNotV (dVar 2)) (dOp oEq (dVar 1) (dC (.int 0)))))
def t_can_begin  : DSt :=
  (dSeq (dIfS (dB (dOp oEq (dVar 3) (dC (.str "read")))) (dRet (dAndV (dNotV (dVar 2)) (dOp oLt (dVar 1) (dVar 0)))) dNext)
  t_can_begin_1)
local macro_rules | `(tactic| walk_at "un") => `(tactic| simp only [t_can_begin_1, t_can_begin])
def canBegin (s r : Int) (w : Bool) (x : Str) : Bool := cond (decide (x = "read")) (!w && decide (r < s)) (!w && decide (r = 0))
def m_can_begin : FDm := fun ds M Q _ => match ds with
  | [.int s, .int r, .bl w, .str x] => Q (.bl (canBegin s r w x)) M
  | _ => False
theorem len_can_begin : ∀ ds M Q X, m_can_begin ds M Q X → ds.length = 4 := fun ds M Q X h => by
  unfold m_can_begin at h
  split at h <;> first | rfl | exact h.elim
theorem read_can_begin : ∀ ds M Q X, m_can_begin ds M Q X → t_can_begin (bodyE Q X) (startD 4 ds) M := by
  intro ds M Q X h
  unfold m_can_begin at h
  split at h
  · rename_i s r w x
    walk_at "un"
    walk_at "dl"
    unfold canBegin at h
    refine cond_dec (fun hx => ?_) fun hx => ?_
    · rw [decide_eq_true hx] at h
      cases w <;> exact retD_of h
    · rw [decide_eq_false hx] at h
      cases w <;> exact retD_of h
  · exact h.elim
-- SIMP m_can_begin
theorem canBegin_read (s r : Int) (w : Bool) : canBegin s r w (Str.ofString "read") = (!w && decide (r < s)) := by
  unfold canBegin
  rw [decide_eq_true (rfl : Str.ofString "read" = ("read" : Str))]
  rfl
theorem canBegin_write (s r : Int) (w : Bool) : canBegin s r w (Str.ofString "write") = (!w && decide (r = 0)) := by
  unfold canBegin
  rw [decide_eq_false (show ¬ Str.ofString "write" = ("read" : Str) by decide +kernel)]
  rfl
-- SIMP canBegin_read canBegin_write
theorem canBegin_wish (s r : Int) (w rd : Bool) : canBegin s r w (wishS rd) = canB s r w rd := by
  unfold canBegin canB
  rw [wishS_read]
-- SIMP canBegin_wish

local macro_rules | `(tactic| walk_at "dl") => `(tactic| try simp -implicitDefEqProofs only [DL.dNext, DL.dSeq, DL.dExpr, DL.dRet, DL.dIfS, DL.dSet, DL.dCont, DL.dRaise, DL.dFor, DL.dgName, DL.dgPair, DL.dTry, DL.dFn, DL.dMth, DL.dMk, DL.dFld, DL.dFldS, DL.dPut, DL.dVar, DL.slot, DL.dC, DL.dOp, DL.dUn, DL.oSub, DL.oMul, DL.oDiv, DL.oMod, DL.oPow, DL.oLt, DL.oLe, DL.oGt, DL.oGe, DL.oEq, DL.oNe, DL.oIn, DL.oNotIn, DL.dB, DL.dIsN, DL.dChain, DL.dAnd, DL.dOr, DL.dNot, DL.dAndV, DL.dOrV, DL.dNotV, DL.dIf, DL.dNil, DL.dCons, DL.few, DL.dLst, DL.dTup, DL.dLstM, DL.dFrz, DL.dPairs, DL.dDisp, DL.dDic0, DL.dSl, DL.dNoPart, DL.dCall, DL.dMet0L, DL.dMet, DL.dItems, DL.dRange1, DL.dEnum, DL.dLcM, DL.dwipe, DL.startD, DL.dNever, DL.el_some, DL.elL_lst, DL.elD_dic, DL.elI_ins, DL.res_non, DL.res_bl, DL.res_int, DL.res_str, DL.res_lst, DL.res_tupE, DL.res_dic, DL.res_scr, DL.res_ty, DL.oAdd_eq, DL.addR_int, DL.addR_str, DL.addR_lst, DL.addR_tup, DL.oAddM_eq, DL.addMR_lst, DL.oInt_eq, DL.intR_int, DL.oInt0_eq, DL.int0R_int, DL.oNeg_eq, DL.negR_int, DL.oEqN_eq, DL.eqR_some, DL.eqR_none, DL.eqS_non_non, DL.eqS_non_int, DL.eqS_non_bl, DL.eqS_non_str, DL.eqS_non_lst, DL.eqS_non_tup, DL.eqS_int_non, DL.eqS_int_int, DL.eqS_int_bl, DL.eqS_int_str, DL.eqS_int_lst, DL.eqS_int_tup, DL.eqS_bl_non, DL.eqS_bl_int, DL.eqS_bl_bl, DL.eqS_bl_str, DL.eqS_bl_lst, DL.eqS_bl_tup, DL.eqS_str_non, DL.eqS_str_int, DL.eqS_str_bl, DL.eqS_str_str, DL.eqS_str_lst, DL.eqS_str_tup, DL.eqS_lst_non, DL.eqS_lst_int, DL.eqS_lst_bl, DL.eqS_lst_str, DL.eqS_lst_lst, DL.eqS_lst_tup, DL.eqS_tup_non, DL.eqS_tup_int, DL.eqS_tup_bl, DL.eqS_tup_str, DL.eqS_tup_lst, DL.eqS_tup_tup, DL.eqS_obj_non, DL.eqS_non_obj, DL.eqS_obj_int, DL.eqS_int_obj, DL.eqS_obj_bl, DL.eqS_bl_obj, DL.eqS_obj_str, DL.eqS_str_obj, DL.eqS_obj_lst, DL.eqS_lst_obj, DL.eqS_obj_tup, DL.eqS_tup_obj, DL.eqS_obj_obj, DL.oInN_eq, DL.inR_lst, DL.inR_tup, DL.inR_str, DL.flatD_non, DL.flatD_bl, DL.flatD_int, DL.flatD_str, DL.asB_bl, DL.isN_non, DL.isN_bl, DL.isN_int, DL.isN_str, DL.isN_lst, DL.isN_tup, DL.isN_dic, DL.isN_scr, DL.isN_ty, DL.isN_obj, DL.frz_non, DL.frz_bl, DL.frz_int, DL.frz_str, DL.frz_lst, DL.frz_tup, DL.frz_dic, DL.frz_scr, DL.frz_ty, DL.oIx_eq, DL.ixR_lst, DL.ixR_tup, DL.ixR_scr, DL.ixR_str, DL.ixR_dic, DL.nth_0, DL.nth_1, DL.nth_2, DL.nth_3, DL.oSl_eq, DL.slR_lst, DL.slR_tup, DL.slR_str, DL.dPart_eq, DL.partR_int, DL.on1_cons, DL.on2_cons, DL.lenD_lst, DL.lenD_tup, DL.lenD_scr, DL.lenD_str, DL.intD_int, DL.intD_bl, DL.strD_int, DL.int2_int, DL.listM_lst, DL.listF_lst, DL.listM_tup, DL.listF_tup, DL.dictM_dic, DL.isiD_ty, DL.oAppend_obj, DL.oInsert_obj, DL.oPop_obj, DL.oPopAt_obj, DL.isLst_eq, DL.isLstR_lst, DL.isStr_str, DL.oSplit_str, DL.oJoin_str, DL.itemsOf_lst, DL.itemsOf_tup, DL.itemsOf_str, DL.rng1_int, DL.enumOf_lst, DL.two_tup, DL.insIs_obj, DL.getFld_obj, DL.setFld_obj, DL.putDic_obj, DL.isB_str_non, DL.isB_str_bl, DL.isB_str_int, DL.isB_str_str, DL.isB_str_lst, DL.isB_str_tup, DL.isB_str_dic, DL.isB_int_non, DL.isB_int_bl, DL.isB_int_int, DL.isB_int_str, DL.isB_int_lst, DL.isB_int_tup, DL.isB_int_dic, DL.isB_bool_non, DL.isB_bool_bl, DL.isB_bool_int, DL.isB_bool_str, DL.isB_bool_lst, DL.isB_bool_tup, DL.isB_bool_dic, DL.isB_list_non, DL.isB_list_bl, DL.isB_list_int, DL.isB_list_str, DL.isB_list_lst, DL.isB_list_tup, DL.isB_list_dic, DL.isB_tuple_non, DL.isB_tuple_bl, DL.isB_tuple_int, DL.isB_tuple_str, DL.isB_tuple_lst, DL.isB_tuple_tup, DL.isB_tuple_dic, Bool.cond_true, Bool.cond_false, L2.CDiv, Int.reduceLT, Int.reduceLE, true_and, and_true, cond_true, cond_false, List.map_cons, List.map_nil, List.set_cons_zero, List.set_cons_succ, List.set_nil, DL.cpow_109, DL.pow_109, DL.frz_set_lst, DL.frz_set_dic, Bool.not_true, Bool.not_false, DL.itemsOf_obj, DL.enumOf_obj, DL.all_still, okD_non, okD_bl, okD_int, okD_str, okD_lst, okD_tup, okD_dic, res_set_lst, Mem.set_same, Mem.set_set, lk_seats, lk_patience, lk_reading, lk_alone, lk_asking, lk_waiting, lk_rows, no_is_inside, no_is_waiting, no_look, no_come, no_leave, no_ask, no_ease, no_settled, no_begun, no_readers, no_writer, no_asker, no_line, no_passed, no_journal, dp_reading, dp_reading0, dp_reading1, dp_alone, dp_alone0, dp_asking, dp_asking0, dp_waiting, dp_rows, few_flds, eNames, isN_optS, res_optS, optS_some, optS_none, Option.isNone_none, Option.isNone_some, ln_queue, ln_reading, ln_alone, ln_asked, dn_queue, dn_reading, dn_reading0, dn_reading1, dn_aloneO, dn_alone, dn_alone0, dn_asked, dn_asked0, few_eN, nod_eN, eqS_optS2, m_l_cell_at, Int.reduceLE, m_l_number_by, m_l_seats, m_l_patience, m_l_people, m_l_names, m_l_wish_by, m_l_crowd, m_is_name, m_is_wish, m_can_begin, canBegin_read, canBegin_write, canBegin_wish])
/-! ### first_reader(line): 0 line, 1 place, 2 one -/
def t_first_reader_L1  : DSt :=
  (dIfS (dB (dOp oEq (dOp oIx (dVar 2) (dC (.int 1))) (dC (.str "read")))) (dRet (dVar 1)) dNext)
def t_first_reader_1  : DSt :=
  (dRet (dC .non))
def t_first_reader  : DSt :=
  (dSeq (dFor (dEnum (dCons (dVar 0) dNil)) (dgPair 1 2) t_first_reader_L1)
  t_first_reader_1)
local macro_rules | `(tactic| walk_at "un") => `(tactic| simp only [t_first_reader_1, t_first_reader])
def m_first_reader : FDm := fun ds M Q _ => ∃ (d : D) (l : List Wt), ds = [d] ∧ Vw d (eLine l) M ∧ Q (optI (firstReader l)) M
theorem len_first_reader : ∀ ds M Q X, m_first_reader ds M Q X → ds.length = 1 := fun ds M Q X ⟨_, _, h, _⟩ => by subst h; rfl
theorem findIdx_none {l : List Wt} (h : ∀ (j : Nat) (w : Wt), l[j]? = some w → w.rd = false) : firstReader l = none := by
  unfold firstReader
  rw [List.findIdx?_eq_none_iff]
  intro x hx
  obtain ⟨j, hj⟩ := List.mem_iff_getElem?.mp hx
  exact h j x hj
theorem findIdx_some {l : List Wt} {k : Nat} {w : Wt} (h : l[k]? = some w) (hw : w.rd = true) (ha : ∀ (j : Nat) (w : Wt), j < k → l[j]? = some w → w.rd = false) : firstReader l = some k := by
  unfold firstReader
  rw [List.findIdx?_eq_some_iff_getElem]
  obtain ⟨hk, e⟩ := List.getElem?_eq_some_iff.mp h
  refine ⟨hk, by rw [e]; exact hw, fun j hj => ?_⟩
  have := ha j (l[j]'(by omega)) hj (List.getElem?_eq_getElem _)
  rw [this]
  exact Bool.false_ne_true
theorem read_first_reader : ∀ ds M Q X, m_first_reader ds M Q X → t_first_reader (bodyE Q X) (startD 3 ds) M := by
  rintro ds M Q X ⟨d, l, rfl, hv, h⟩
  walk_at "un"
  walk_at "dl"
  refine hv.enum fun P hP => ?_
  refine ⟨fun k δ M' => M' = M ∧ (∃ o1 o2 : Option D, δ = [some d, o1, o2]) ∧ ∀ (j : Nat) (w : Wt), j < k → l[j]? = some w → w.rd = false, ⟨rfl, ⟨_, _, rfl⟩, fun j _ hj => absurd hj (Nat.not_lt_zero _)⟩, ?_, ?_⟩
  · rintro k x δ M' hx ⟨rfl, ⟨o1, o2, rfl⟩, hk⟩
    refine ⟨hP, ?_⟩
    rw [enumD_get] at hx
    unfold eLine at hx
    rw [List.getElem?_map] at hx
    cases e : l[k]? with
    | none => rw [e] at hx; cases hx
    | some w =>
      rw [e] at hx
      cases hx
      unfold t_first_reader_L1 eW
      walk_at "dl"
      rw [wishS_read]
      refine cond_of (fun hr => ?_) fun hr => ?_
      · rw [findIdx_some e hr hk] at h
        have e0 : ((0 + k : Nat) : Int) = (k : Int) := by rw [Nat.zero_add]
        rw [e0]
        exact retD_of h
      · refine ⟨⟨_, _, rfl⟩, fun j w' hj hw => ?_⟩
        by_cases hjk : j = k
        · subst hjk; rw [e] at hw; cases hw; exact hr
        · exact hk j w' (by omega) hw
  · rintro δ M' ⟨rfl, ⟨o1, o2, rfl⟩, hk⟩
    refine ⟨hP, ?_⟩
    rw [enumD_len] at hk
    have hn : firstReader l = none := findIdx_none fun j w hw => hk j w (by
      unfold eLine
      rw [List.length_map]
      exact (List.getElem?_eq_some_iff.mp hw).1) hw
    rw [hn] at h
    exact retD_of h

/-! ### next_place(line, seats, patience, reading, writes): 0 line, 1 seats, 2 patience, 3 reading, 4 writes, 5 place, 6 one -/
def t_next_place_L1  : DSt :=
  (dIfS (dB (dOp oGe (dOp oIx (dVar 6) (dC (.int 2))) (dVar 2))) (dRet (dC .non)) dNext)
def t_next_place_6  : DSt :=
  (dRet (dVar 5))
def t_next_place_5  : DSt :=
  (dSeq (dFor (dItems (dSl (dVar 0) dNoPart (dPart (dVar 5)))) (dgName 6) t_next_place_L1)
  t_next_place_6)
def t_next_place_4  : DSt :=
  (dSeq (dIfS (dOr (dB (dIsN false (dVar 5))) (dNot (dB (dFn m_can_begin (dCons (dVar 1) (dCons (dVar 3) (dCons (dVar 4) (dCons (dC (.str "read")) dNil)))))))) (dRet (dC .non)) dNext)
  t_next_place_5)
def t_next_place_3  : DSt :=
  (dSeq (dSet 5 (dFn m_first_reader (dCons (dVar 0) dNil)))
  t_next_place_4)
def t_next_place_2  : DSt :=
  (dSeq (dIfS (dOr (dB (dOp oEq (dOp oIx (dOp oIx (dVar 0) (dC (.int 0))) (dC (.int 1))) (dC (.str "read")))) (dB (dOp oEq (dVar 3) (dC (.int 0))))) (dRet (dC .non)) dNext)
  t_next_place_3)
def t_next_place_1  : DSt :=
  (dSeq (dIfS (dB (dFn m_can_begin (dCons (dVar 1) (dCons (dVar 3) (dCons (dVar 4) (dCons (dOp oIx (dOp oIx (dVar 0) (dC (.int 0))) (dC (.int 1))) dNil)))))) (dRet (dC (.int 0))) dNext)
  t_next_place_2)
def t_next_place  : DSt :=
  (dSeq (dIfS (dB (dOp oEq (dVar 0) (dLst dNil))) (dRet (dC .non)) dNext)
  t_next_place_1)
local macro_rules | `(tactic| walk_at "un") => `(tactic| simp only [t_next_place_6, t_next_place_5, t_next_place_4, t_next_place_3, t_next_place_2, t_next_place_1, t_next_place])
def m_next_place : FDm := fun ds M Q _ => ∃ (d : D) (l : List Wt) (s p r : Int) (w : Bool), ds = [d, .int s, .int p, .int r, .bl w] ∧ Vw d (eLine l) M ∧ Q (optI (nextPlace l s p r w)) M
theorem len_next_place : ∀ ds M Q X, m_next_place ds M Q X → ds.length = 5 := fun ds M Q X ⟨_, _, _, _, _, _, h, _⟩ => by subst h; rfl
theorem read_next_place : ∀ ds M Q X, m_next_place ds M Q X → t_next_place (bodyE Q X) (startD 7 ds) M := by
  rintro ds M Q X ⟨d, l, s, p, r, w, rfl, hv, h⟩
  unfold t_next_place t_next_place_1
  walk_at "dl"
  rw [hv.eqS_lst, hv.res]
  walk_at "dl"
  refine ⟨by rw [flatN_lst]; exact flat_map _ _ (fun w => by unfold eW; rw [flatN_tup, flatL_cons, flatL_cons, flatL_cons, flatN_str, flatN_str, flatN_int, flatL_nil]; rfl) l, by rw [flatN_lst]; rfl, ?_⟩
  rw [eqv_nil]
  cases l with
  | nil => exact retD_of h
  | cons x l =>
    show cond false _ _
    rw [cond_false]
    have e0 : nth (eLine (x :: l)) 0 = some (eW x) := rfl
    rw [hv.res, ixR_lst, e0, el_some]
    unfold eW
    walk_at "dl"
    refine cond_of (fun hc => ?_) fun hc => ?_
    · have : nextPlace (x :: l) s p r w = some 0 := by
        unfold nextPlace
        simp only
        rw [if_pos hc]
      rw [this] at h
      exact retD_of h
    unfold t_next_place_2
    walk_at "dl"
    rw [hv.res, ixR_lst, e0, el_some]
    unfold eW
    walk_at "dl"
    rw [wishS_read]
    have hnone : (x.rd = true ∨ r = 0) → retD Q .non M := fun hh => by
      have : nextPlace (x :: l) s p r w = none := by
        unfold nextPlace
        simp only
        rw [if_neg (by rw [hc]; exact Bool.false_ne_true), if_pos hh]
      rw [this] at h
      exact retD_of h
    refine cond_of (fun hr => hnone (.inl hr)) fun hr => cond_dec (fun h0 => hnone (.inr h0)) fun h0 => ?_
    have hno : ¬ (x.rd = true ∨ r = 0) := by
      rintro (z | z)
      · rw [z] at hr; cases hr
      · exact h0 z
    unfold t_next_place_3
    walk_at "dl"
    refine ⟨d, x :: l, rfl, hv, ?_⟩
    unfold t_next_place_4
    have hnp : nextPlace (x :: l) s p r w = (match firstReader (x :: l) with
      | none => none
      | some k => if canB s r w true = false then none else if ((x :: l).take k).any (fun o => decide (p ≤ o.n)) = true then none else some k) := by
      rw [nextPlace]
      rw [if_neg (by rw [hc]; exact Bool.false_ne_true), if_neg hno]
    rw [hnp] at h
    cases hf : firstReader (x :: l) with
    | none =>
      rw [hf] at h
      unfold optI
      walk_at "dl"
      exact retD_of h
    | some k =>
      rw [hf] at h
      unfold optI
      walk_at "dl"
      have hcr : (!w && decide (r < s)) = canB s r w true := rfl
      rw [hcr]
      cases hb : canB s r w true with
      | false =>
        rw [hb] at h
        walk_at "dl"
        exact retD_of h
      | true =>
        rw [hb] at h
        simp only [Bool.true_eq_false, if_false] at h
        walk_at "dl"
        unfold t_next_place_5
        walk_at "dl"
        rw [hv.res]
        walk_at "dl"
        rw [dcut_take]
        refine ⟨fun j δ M' => M' = M ∧ (∃ o : Option D, δ = [some d, some (.int s), some (.int p), some (.int r), some (.bl w), some (.int (k : Int)), o]) ∧ ∀ (i : Nat) (o : Wt), i < j → ((x :: l).take k)[i]? = some o → ¬ p ≤ o.n, ⟨rfl, ⟨_, rfl⟩, fun i _ hi => absurd hi (Nat.not_lt_zero _)⟩, ?_, ?_⟩
        · rintro j y δ M' hy ⟨rfl, ⟨o, rfl⟩, hj⟩
          refine ⟨trivial, ?_⟩
          unfold eLine at hy
          rw [← List.map_take, List.getElem?_map] at hy
          cases e : ((x :: l).take k)[j]? with
          | none => rw [e] at hy; cases hy
          | some v =>
            rw [e] at hy
            cases hy
            unfold t_next_place_L1 eW
            walk_at "dl"
            refine cond_dec (fun hp => ?_) fun hp => ?_
            · have : ((x :: l).take k).any (fun o => decide (p ≤ o.n)) = true := List.any_eq_true.mpr ⟨v, List.mem_of_getElem? e, decide_eq_true hp⟩
              rw [if_pos this] at h
              exact retD_of h
            · refine ⟨⟨_, rfl⟩, fun i o' hi ho => ?_⟩
              by_cases hij : i = j
              · subst hij; rw [e] at ho; cases ho; exact hp
              · exact hj i o' (by omega) ho
        · rintro δ M' ⟨rfl, ⟨o, rfl⟩, hj⟩
          refine ⟨trivial, ?_⟩
          have : ¬ ((x :: l).take k).any (fun o => decide (p ≤ o.n)) = true := by
            intro hh
            obtain ⟨v, hm, hp⟩ := List.any_eq_true.mp hh
            obtain ⟨i, hi⟩ := List.mem_iff_getElem?.mp hm
            refine hj i v ?_ hi (of_decide_eq_true hp)
            have := (List.getElem?_eq_some_iff.mp hi).1
            unfold eLine
            rw [← List.map_take, List.length_map]
            exact this
          rw [if_neg this] at h
          unfold t_next_place_6
          walk_at "dl"
          exact retD_of h

/-! ### Room.begun(self): 0 self, 1 place, 2 one, 3 ahead, 4 other -/
def t_room_begun_7 (A : Adr) : DSt :=
  (dRet (dTup (dCons (dOp oIx (dVar 2) (dC (.int 0))) (dCons (dOp oIx (dVar 2) (dC (.int 1))) dNil))))
def t_room_begun_6 (A : Adr) : DSt :=
  (dSeq (dIfS (dB (dOp oEq (dOp oIx (dVar 2) (dC (.int 1))) (dC (.str "read")))) (dFldS A.Room "reading" (dVar 0) (dOp oAdd (dFld A.Room "reading" (dVar 0)) (dLst (dCons (dOp oIx (dVar 2) (dC (.int 0))) dNil)))) (dFldS A.Room "alone" (dVar 0) (dOp oIx (dVar 2) (dC (.int 0)))))
  (t_room_begun_7 A))
def t_room_begun_5 (A : Adr) : DSt :=
  (dSeq (dFldS A.Room "waiting" (dVar 0) (dOp oAdd (dVar 3) (dSl (dFld A.Room "waiting" (dVar 0)) (dPart (dOp oAdd (dVar 1) (dC (.int 1)))) dNoPart)))
  (t_room_begun_6 A))
def t_room_begun_4 (A : Adr) : DSt :=
  (dSeq (dSet 3 (dLc (dItems (dSl (dFld A.Room "waiting" (dVar 0)) dNoPart (dPart (dVar 1)))) 4 dYes (dTup (dCons (dOp oIx (dVar 4) (dC (.int 0))) (dCons (dOp oIx (dVar 4) (dC (.int 1))) (dCons (dOp oAdd (dOp oIx (dVar 4) (dC (.int 2))) (dC (.int 1))) dNil))))))
  (t_room_begun_5 A))
def t_room_begun_3 (A : Adr) : DSt :=
  (dSeq (dSet 2 (dOp oIx (dFld A.Room "waiting" (dVar 0)) (dVar 1)))
  (t_room_begun_4 A))
def t_room_begun_2 (A : Adr) : DSt :=
  (dSeq (dIfS (dB (dIsN false (dVar 1))) (dRet (dC .non)) dNext)
  (t_room_begun_3 A))
def t_room_begun_1 (A : Adr) : DSt :=
  (dSeq (dSet 1 (dFn m_next_place (dCons (dFld A.Room "waiting" (dVar 0)) (dCons (dFld A.Room "seats" (dVar 0)) (dCons (dFld A.Room "patience" (dVar 0)) (dCons (dCall (on1 lenD) (dCons (dFld A.Room "reading" (dVar 0)) dNil)) (dCons (dIsN true (dFld A.Room "alone" (dVar 0))) dNil)))))))
  (t_room_begun_2 A))
def t_room_begun (A : Adr) : DSt :=
  (dSeq (dIfS (dB (dIsN true (dFld A.Room "asking" (dVar 0)))) (dSeq (dIfS (dB (dOp oGt (dCall (on1 lenD) (dCons (dFld A.Room "reading" (dVar 0)) dNil)) (dC (.int 1)))) (dRet (dC .non)) dNext)
  (dSeq (dFldS A.Room "alone" (dVar 0) (dFld A.Room "asking" (dVar 0)))
  (dSeq (dFldS A.Room "asking" (dVar 0) (dC .non))
  (dSeq (dFldS A.Room "reading" (dVar 0) (dLst dNil))
  (dRet (dTup (dCons (dFld A.Room "alone" (dVar 0)) (dCons (dC (.str "write")) dNil)))))))) dNext)
  (t_room_begun_1 A))
local macro_rules | `(tactic| walk_at "un") => `(tactic| simp only [t_room_begun_7, t_room_begun_6, t_room_begun_5, t_room_begun_4, t_room_begun_3, t_room_begun_2, t_room_begun_1, t_room_begun])
def m_room_begun (A : Adr) : FDm := fun ds M Q _ => ∃ (a : Addr) (r : Rm), ds = [.obj a] ∧ At A M a r ∧ wgt r ≤ 1000000 ∧
  (begun r = none → Q .non M) ∧ (∀ p r1, begun r = some (p, r1) → Q (eP p) (M.set a (.ins A.Room (flds r1))))
theorem len_room_begun (A : Adr) : ∀ ds M Q X, m_room_begun A ds M Q X → ds.length = 1 := fun ds M Q X ⟨_, _, h, _⟩ => by subst h; rfl
theorem read_room_begun (A : Adr) : ∀ ds M Q X, m_room_begun A ds M Q X → t_room_begun A (bodyE Q X) (startD 5 ds) M := by
  rintro ds M Q X ⟨a, r, rfl, ha, hw, h0, h1⟩
  have hM : M a = some (.ins A.Room (flds r)) := ha
  unfold begun at h0 h1
  unfold t_room_begun
  walk_at "dl"
  rw [hM]
  walk_at "dl"
  cases hr : r.asking with
  | some z =>
    rw [hr] at h0 h1
    simp only at h0 h1
    show cond true _ _
    rw [cond_true]
    rw [hM]
    walk_at "dl"
    rw [hr]
    walk_at "dl"
    rw [List.length_map]
    refine cond_dec (fun e => ?_) fun e => ?_
    · exact retD_of (h0 (if_pos (by omega)))
    · have := h1 _ _ (if_neg (by omega))
      unfold eP at this
      rw [wishS_f] at this
      exact retD_of this
  | none =>
    rw [hr] at h0 h1
    simp only at h0 h1
    show cond false _ _
    rw [cond_false]
    unfold t_room_begun_1
    walk_at "dl"
    rw [hM]
    walk_at "dl"
    rw [hM]
    walk_at "dl"
    rw [List.length_map]
    have hb : (!r.alone.isNone) = r.alone.isSome := by cases r.alone <;> rfl
    rw [hb]
    refine ⟨_, _, _, _, _, _, rfl, .lst _ _, ?_⟩
    unfold t_room_begun_2
    cases hn : nextPlace r.waiting r.seats r.patience r.reading.length r.alone.isSome with
    | none =>
      rw [hn] at h0
      unfold optI
      walk_at "dl"
      exact retD_of (h0 rfl)
    | some k =>
      have hk := nextPlace_lt hn
      have hg := List.getElem?_eq_getElem hk
      rw [hn] at h1
      simp only at h1
      generalize r.waiting[k] = w at hg
      rw [hg] at h1
      have h1 := h1 _ _ rfl
      unfold optI
      walk_at "dl"
      unfold t_room_begun_3
      walk_at "dl"
      rw [hM]
      walk_at "dl"
      rw [nth_eL hg, el_some]
      unfold t_room_begun_4
      walk_at "dl"
      rw [hM]
      walk_at "dl"
      rw [dcut_take, take_eLine]
      refine lc_map bumpD (fun x hx M1 hs Qd q => ?_) ?_
      · unfold eLine at hx
        obtain ⟨v, hv, rfl⟩ := List.mem_map.mp hx
        unfold eW
        walk_at "dl"
        exact q
      rw [bump_eLine]
      unfold t_room_begun_5
      walk_at "dl"
      rw [hM]
      walk_at "dl"
      rw [dcut_drop, drop_eLine]
      walk_at "dl"
      rw [← eLine_app]
      have hz : (eLine ((r.waiting.take k).map bump)).length + (eLine (r.waiting.drop (k + 1))).length ≤ sizeLine := by
        rw [len_eLine, len_eLine, List.length_map, List.length_take, List.length_drop, sizeLine_eq]
        unfold wgt at hw
        omega
      refine ⟨hz, ?_⟩
      rw [hM]
      walk_at "dl"
      unfold t_room_begun_6 t_room_begun_7 eW
      walk_at "dl"
      rw [wishS_read]
      unfold eP at h1
      cases hrd : w.rd with
      | true =>
        rw [hrd] at h1
        walk_at "dl"
        rw [show D.lst (r.reading.map .str ++ [.str w.name]) = D.lst ((r.reading ++ [w.name]).map .str) by rw [List.map_append]; rfl]
        walk_at "dl"
        rw [hr]
        refine ⟨?_, retD_of h1⟩
        rw [List.length_map, sizeLine_eq]
        unfold wgt at hw
        show _ + 1 ≤ _
        omega
      | false =>
        rw [hrd] at h1
        walk_at "dl"
        rw [hr]
        exact retD_of h1

/-! ### Room.settled(self, row): 0 self, 1 row, 2 found, 3 one -/
def t_room_settled_L1_2 (A : Adr) : DSt :=
  (dSet 3 (dMth A.Room "begun" (m_room_begun A) (dVar 0) dNil))
def t_room_settled_L1_1 (A : Adr) : DSt :=
  (dSeq (dFldS A.Room "rows" (dVar 0) (dOp oAdd (dFld A.Room "rows" (dVar 0)) (dLst (dCons (dTup (dCons (dC (.str "begins")) (dCons (dOp oIx (dVar 3) (dC (.int 0))) (dCons (dOp oIx (dVar 3) (dC (.int 1))) dNil)))) dNil))))
  (t_room_settled_L1_2 A))
def t_room_settled_L1 (A : Adr) : DSt :=
  (dSeq (dExpr (dMet isLst oAppend (dVar 2) (dCons (dVar 3) dNil)))
  (t_room_settled_L1_1 A))
def t_room_settled_4 (A : Adr) : DSt :=
  (dRet (dVar 2))
def t_room_settled_3 (A : Adr) : DSt :=
  (dSeq (dWhile (dB (dIsN true (dVar 3))) (t_room_settled_L1 A))
  (t_room_settled_4 A))
def t_room_settled_2 (A : Adr) : DSt :=
  (dSeq (dSet 3 (dMth A.Room "begun" (m_room_begun A) (dVar 0) dNil))
  (t_room_settled_3 A))
def t_room_settled_1 (A : Adr) : DSt :=
  (dSeq (dSet 2 (dLstM dNil))
  (t_room_settled_2 A))
def t_room_settled (A : Adr) : DSt :=
  (dSeq (dFldS A.Room "rows" (dVar 0) (dOp oAdd (dFld A.Room "rows" (dVar 0)) (dLst (dCons (dVar 1) dNil))))
  (t_room_settled_1 A))
local macro_rules | `(tactic| walk_at "un") => `(tactic| simp only [t_room_settled_4, t_room_settled_3, t_room_settled_2, t_room_settled_1, t_room_settled])
def m_room_settled (A : Adr) : FDm := fun ds M Q _ => ∃ (a : Addr) (r : Rm) (x : Rw), ds = [.obj a, eR x] ∧ At A M a r ∧ wgt r ≤ 900000 ∧
  ∀ p, M p = none → Q (.obj p) ((M.set a (.ins A.Room (flds (settle (meas r) (logR r x)).2))).set p (.lst (ePs (settle (meas r) (logR r x)).1)))
theorem len_room_settled (A : Adr) : ∀ ds M Q X, m_room_settled A ds M Q X → ds.length = 2 := fun ds M Q X ⟨_, _, _, h, _⟩ => by subst h; rfl
/-- where the loop stands: those found, the one who begins, the room, and what comes out in the end -/
def setAt (L : List (Str × Bool)) (R : Rm) (m : Nat) (l : List (Str × Bool)) (one : Option (Str × Bool)) (r : Rm) : Prop :=
  wgt r ≤ 900009 ∧ l.length ≤ r.rows.length ∧ match one with
  | none => L = l ∧ R = r
  | some q => wgt (logB r q) ≤ 900009 ∧ ∃ n, m = n + 1 ∧ meas r ≤ n ∧ L = l ++ q :: (settle n (logB r q)).1 ∧ R = (settle n (logB r q)).2
theorem setAt_of {L : List (Str × Bool)} {R r : Rm} {n : Nat} {l : List (Str × Bool)} (hw : wgt r ≤ 900009) (hl : l.length ≤ r.rows.length) (hm : meas r ≤ n) (hL : L = l ++ (settle n r).1) (hR : R = (settle n r).2) :
    (begun r = none → setAt L R n l none r) ∧ ∀ p r1, begun r = some (p, r1) → setAt L R n l (some p) r1 := by
  refine ⟨fun h => ?_, fun p r1 h => ?_⟩
  · cases n with
    | zero => exact ⟨hw, hl, by rw [hL]; exact List.append_nil _, hR⟩
    | succ n =>
      unfold settle at hL hR
      rw [h] at hL hR
      exact ⟨hw, hl, by rw [hL]; exact List.append_nil _, hR⟩
  · obtain ⟨b1, b2, b3⟩ := begun_spec h
    cases n with
    | zero => omega
    | succ n =>
      unfold settle at hL hR
      rw [h] at hL hR
      have b4 : wgt r1 ≤ wgt (logB r1 p) := by
        unfold wgt logB
        simp only [List.length_append]
        omega
      exact ⟨by omega, by rw [b3]; exact hl, by omega, n, rfl, by omega, hL, hR⟩
theorem read_room_settled (A : Adr) : ∀ ds M Q X, m_room_settled A ds M Q X → t_room_settled A (bodyE Q X) (startD 4 ds) M := by
  rintro ds M Q X ⟨a, r, x, rfl, ha, hw, h⟩
  have hM : M a = some (.ins A.Room (flds r)) := ha
  unfold t_room_settled
  walk_at "dl"
  rw [hM]
  walk_at "dl"
  have e1 : eRows r.rows ++ [eR x] = eRows (r.rows ++ [x]) := by rw [eRows_app]; rfl
  rw [e1]
  walk_at "dl"
  refine ⟨by rw [len_eRows, sizeLine_eq]; unfold wgt at hw; show _ + 1 ≤ _; omega, ?_⟩
  rw [hM]
  walk_at "dl"
  unfold t_room_settled_1
  walk_at "dl"
  intro p hp
  have hpa : p ≠ a := fun e => by
    subst e
    rw [Mem.set_same] at hp
    cases hp
  rw [Mem.set_ne hpa] at hp
  have h := h p hp
  generalize hS : settle (meas r) (logR r x) = S at h
  obtain ⟨L, R⟩ := S
  simp only at h
  have hwx : wgt (logR r x) ≤ 900009 := by
    unfold wgt logR
    unfold wgt at hw
    simp only [List.length_append, List.length_singleton]
    omega
  have hat : ∀ (r : Rm) (l : List (Str × Bool)), ((M.set a (.ins A.Room (flds r))).set p (.lst (ePs l))) a = some (.ins A.Room (flds r)) := fun r l => by
    rw [Mem.set_ne hpa.symm, Mem.set_same]
  have hsets : ∀ (r r' : Rm) (l : List (Str × Bool)), ((M.set a (.ins A.Room (flds r))).set p (.lst (ePs l))).set a (.ins A.Room (flds r')) = (M.set a (.ins A.Room (flds r'))).set p (.lst (ePs l)) := fun r r' l => by
    rw [Mem.set_comm hpa, Mem.set_set]
  have hb : ∀ (n : Nat) (r : Rm) (l : List (Str × Bool)) (Q' : QD) (X' : Addr → Mem → Prop), wgt r ≤ 900009 → l.length ≤ r.rows.length → meas r ≤ n → L = l ++ (settle n r).1 → R = (settle n r).2 →
      (∀ one r1, setAt L R n l one r1 → Q' (optP one) ((M.set a (.ins A.Room (flds r1))).set p (.lst (ePs l)))) →
      m_room_begun A [.obj a] ((M.set a (.ins A.Room (flds r))).set p (.lst (ePs l))) Q' X' := fun n r l Q' X' h1 hl h2 h3 h4 k => by
    obtain ⟨s1, s2⟩ := setAt_of h1 hl h2 h3 h4
    refine ⟨a, r, rfl, hat _ _, by omega, fun hb => k none r (s1 hb), fun q r1 hb => ?_⟩
    rw [hsets]
    exact k (some q) r1 (s2 q r1 hb)
  have loop : ∀ m l one r1, setAt L R m l one r1 → t_room_settled_3 A (bodyE Q X) [some (.obj a), some (eR x), some (.obj p), some (optP one)] ((M.set a (.ins A.Room (flds r1))).set p (.lst (ePs l))) := by
    intro m l one r1 hs
    unfold t_room_settled_3
    walk_at "dl"
    refine ⟨fun m δ M' => ∃ l one r1, setAt L R m l one r1 ∧ M' = (M.set a (.ins A.Room (flds r1))).set p (.lst (ePs l)) ∧ δ = [some (.obj a), some (eR x), some (.obj p), some (optP one)], ⟨m, l, one, r1, hs, rfl, rfl⟩, ?_⟩
    rintro m δ M' ⟨l, one, r1, hs, rfl, rfl⟩
    walk_at "dl"
    cases one with
    | none =>
      obtain ⟨_, _, rfl, rfl⟩ := hs
      unfold optP t_room_settled_4
      walk_at "dl"
      exact retD_of h
    | some q =>
      obtain ⟨h1, hl, h2, n, rfl, hm, hL, hR⟩ := hs
      unfold optP t_room_settled_L1 t_room_settled_L1_1 t_room_settled_L1_2 eP
      walk_at "dl"
      have hr1 : r1.rows.length ≤ 900009 := by unfold wgt at h1; omega
      refine ⟨by unfold ePs; rw [List.length_map, sizeLine_eq]; omega, ?_⟩
      have e2 : ePs l ++ [D.tup [D.str q.1, D.str (wishS q.2)]] = ePs (l ++ [q]) := by unfold ePs; rw [List.map_append]; rfl
      have e3 : eRows r1.rows ++ [D.tup [D.str (Str.ofString "begins"), D.str q.1, D.str (wishS q.2)]] = eRows (r1.rows ++ [.begins q.1 q.2]) := by rw [eRows_app]; rfl
      rw [e2, hat]
      walk_at "dl"
      rw [e3]
      refine ⟨by rw [len_eRows, sizeLine_eq]; show _ + 1 ≤ _; omega, ?_⟩
      rw [hat]
      walk_at "dl"
      rw [hsets]
      rw [show (⟨r1.seats, r1.patience, r1.reading, r1.alone, r1.asking, r1.waiting, r1.rows ++ [.begins q.1 q.2]⟩ : Rm) = logB r1 q from rfl]
      refine hb n (logB r1 q) (l ++ [q]) _ _ h2 ?_ hm ?_ hR fun one r2 hs => ⟨n, Nat.lt_succ_self n, l ++ [q], one, r2, hs, rfl, by cases one <;> rfl⟩
      · unfold logB
        simp only [List.length_append, List.length_singleton]
        omega
      · rw [hL, List.append_assoc]
        rfl
  unfold t_room_settled_2
  walk_at "dl"
  rw [show (MO.lst []) = MO.lst (ePs []) from rfl]
  rw [show (⟨r.seats, r.patience, r.reading, r.alone, r.asking, r.waiting, r.rows ++ [x]⟩ : Rm) = logR r x from rfl]
  rw [hat]
  walk_at "dl"
  exact hb (meas r) (logR r x) [] _ _ hwx (Nat.zero_le _) (Nat.le_refl _) (by rw [hS]; rfl) (by rw [hS]) fun one r1 hs => loop _ _ _ _ hs
/-- the settling of a deed, from the room as it stands in the memory -/
theorem settled_by {A : Adr} {a : Addr} {r : Rm} {x : Rw} {M M0 : Mem} {Q : QD} {X X' : Addr → Mem → Prop} (ha : At A M a r) (hM : ∀ r', M.set a (.ins A.Room (flds r')) = M0.set a (.ins A.Room (flds r'))) (hp : ∀ p, M p = none → M0 p = none) (hw : wgt r ≤ 900000) (h : outQ A a (doneBy r x) M0 Q X) :
    m_room_settled A [.obj a, eR x] M (retD Q) X' := ⟨a, r, x, rfl, ha, hw, fun p q => by
  rw [hM]
  exact retD_of (h p (hp p q))⟩

/-! ### Room.come(self, name, wish): 0 self, 1 name, 2 wish -/
def t_room_come_4 (A : Adr) : DSt :=
  (dRet (dMth A.Room "settled" (m_room_settled A) (dVar 0) (dCons (dTup (dCons (dC (.str "came")) (dCons (dVar 1) (dCons (dVar 2) dNil)))) dNil)))
def t_room_come_3 (A : Adr) : DSt :=
  (dSeq (dFldS A.Room "waiting" (dVar 0) (dOp oAdd (dFld A.Room "waiting" (dVar 0)) (dLst (dCons (dTup (dCons (dVar 1) (dCons (dVar 2) (dCons (dC (.int 0)) dNil)))) dNil))))
  (t_room_come_4 A))
def t_room_come_2 (A : Adr) : DSt :=
  (dSeq (dIfS (dOr (dB (dMth A.Room "is_inside" (m_room_is_inside A) (dVar 0) (dCons (dVar 1) dNil))) (dB (dMth A.Room "is_waiting" (m_room_is_waiting A) (dVar 0) (dCons (dVar 1) dNil)))) (dRaise A.Known) dNext)
  (t_room_come_3 A))
def t_room_come_1 (A : Adr) : DSt :=
  (dSeq (dIfS (dNot (dB (dFn m_is_wish (dCons (dVar 2) dNil)))) (dRaise A.BadWish) dNext)
  (t_room_come_2 A))
def t_room_come (A : Adr) : DSt :=
  (dSeq (dIfS (dNot (dB (dFn m_is_name (dCons (dVar 1) dNil)))) (dRaise A.BadName) dNext)
  (t_room_come_1 A))
local macro_rules | `(tactic| walk_at "un") => `(tactic| simp only [t_room_come_4, t_room_come_3, t_room_come_2, t_room_come_1, t_room_come])
def m_room_come (A : Adr) : FDm := fun ds M Q X => ∃ (a : Addr) (r : Rm) (n w : D), ds = [.obj a, n, w] ∧ At A M a r ∧ okD n = true ∧ okD w = true ∧ wgt r ≤ 800000 ∧ outQ A a (comeO r n w) M Q X
theorem len_room_come (A : Adr) : ∀ ds M Q X, m_room_come A ds M Q X → ds.length = 3 := fun ds M Q X ⟨_, _, _, _, h, _⟩ => by subst h; rfl
theorem read_room_come (A : Adr) : ∀ ds M Q X, m_room_come A ds M Q X → t_room_come A (bodyE Q X) (startD 3 ds) M := by
  rintro ds M Q X ⟨a, r, n, w, rfl, ha, hn, hw, hs, h⟩
  have hM : M a = some (.ins A.Room (flds r)) := ha
  unfold comeO at h
  unfold t_room_come
  walk_at "dl"
  refine ⟨hn, cond_of (fun h1 => ?_) fun h1 => ?_⟩
  · have h1 : isName n = false := by simpa using h1
    rw [if_pos h1] at h
    exact retX_of h
  have h1 : isName n = true := by simpa using h1
  rw [if_neg (by rw [h1]; exact Bool.true_eq_false.mp)] at h
  unfold t_room_come_1
  walk_at "dl"
  refine ⟨hw, cond_of (fun h2 => ?_) fun h2 => ?_⟩
  · have h2 : isWish w = false := by simpa using h2
    rw [if_pos h2] at h
    exact retX_of h
  have h2 : isWish w = true := by simpa using h2
  rw [if_neg (by rw [h2]; exact Bool.true_eq_false.mp)] at h
  obtain ⟨z, rfl⟩ := isName_str h1
  obtain ⟨b, rfl⟩ := isWish_str h2
  simp only at h
  rw [wishS_read] at h
  unfold t_room_come_2
  walk_at "dl"
  rw [hM]
  walk_at "dl"
  refine ⟨a, r, z, rfl, ha, ?_⟩
  have hno : (insideB r z || waitsB r z) = true → retX X A.Known [some (.obj a), some (.str z), some (.str (wishS b))] M := fun e => by
    rw [if_pos e] at h
    exact retX_of h
  walk_at "dl"
  refine cond_of (fun h3 => hno (by rw [h3]; rfl)) fun h3 => ?_
  rw [hM]
  walk_at "dl"
  refine ⟨a, r, z, rfl, ha, ?_⟩
  walk_at "dl"
  refine cond_of (fun h4 => hno (by rw [h4, Bool.or_true])) fun h4 => ?_
  rw [if_neg (by rw [h3, h4]; exact Bool.false_ne_true)] at h
  unfold t_room_come_3 t_room_come_4
  walk_at "dl"
  rw [hM]
  walk_at "dl"
  have e1 : eLine r.waiting ++ [D.tup [D.str z, D.str (wishS b), D.int 0]] = eLine (r.waiting ++ [⟨z, b, 0⟩]) := by rw [eLine_app]; rfl
  rw [e1]
  walk_at "dl"
  have hww : r.waiting.length ≤ 800000 := by unfold wgt at hs; omega
  refine ⟨by rw [len_eLine, sizeLine_eq]; show _ + 1 ≤ _; omega, ?_⟩
  rw [hM]
  walk_at "dl"
  refine settled_by (x := .came z b) Mem.set_same (fun r' => Mem.set_set) (fun p hp => set_none hp) ?_ h
  unfold wgt at hs ⊢
  simp only [List.length_append, List.length_singleton]
  omega

/-! ### Room.look(self, name): 0 self, 1 name -/
def t_room_look (A : Adr) : DSt :=
  (dIfS (dOr (dNot (dB (dFn m_is_name (dCons (dVar 1) dNil)))) (dAnd (dNot (dB (dMth A.Room "is_inside" (m_room_is_inside A) (dVar 0) (dCons (dVar 1) dNil)))) (dNot (dB (dMth A.Room "is_waiting" (m_room_is_waiting A) (dVar 0) (dCons (dVar 1) dNil)))))) (dRaise A.Stranger) dNext)
local macro_rules | `(tactic| walk_at "un") => `(tactic| simp only [t_room_look])
def m_room_look (A : Adr) : FDm := fun ds M Q X => ∃ (a : Addr) (r : Rm) (d : D), ds = [.obj a, d] ∧ At A M a r ∧ okD d = true ∧ (hereB r d = false → X A.Stranger M) ∧ (hereB r d = true → Q .non M)
theorem len_room_look (A : Adr) : ∀ ds M Q X, m_room_look A ds M Q X → ds.length = 2 := fun ds M Q X ⟨_, _, _, h, _⟩ => by subst h; rfl
theorem read_room_look (A : Adr) : ∀ ds M Q X, m_room_look A ds M Q X → t_room_look A (bodyE Q X) (startD 2 ds) M := by
  rintro ds M Q X ⟨a, r, d, rfl, ha, hd, hx, hq⟩
  have hM : M a = some (.ins A.Room (flds r)) := ha
  unfold t_room_look
  walk_at "dl"
  refine ⟨hd, cond_of (fun h1 => ?_) fun h1 => ?_⟩
  · refine retX_of (hx ?_)
    have h1 : isName d = false := by simpa using h1
    cases d <;> first | rfl | (have h1 : nameOk _ = false := h1; show (nameOk _ && (insideB r _ || waitsB r _)) = false; rw [h1]; rfl)
  · have h1 : isName d = true := by simpa using h1
    obtain ⟨z, rfl⟩ := isName_str h1
    have h1 : nameOk z = true := h1
    have he : hereB r (.str z) = (insideB r z || waitsB r z) := by
      show (nameOk z && (insideB r z || waitsB r z)) = _
      rw [h1]; rfl
    rw [he] at hx hq
    rw [hM]
    walk_at "dl"
    refine ⟨a, r, z, rfl, ha, ?_⟩
    walk_at "dl"
    rw [hM]
    walk_at "dl"
    cases h2 : insideB r z with
    | true =>
      rw [h2] at hq
      walk_at "dl"
      exact retD_of (hq rfl)
    | false =>
      rw [h2, Bool.false_or] at hq hx
      walk_at "dl"
      refine ⟨a, r, z, rfl, ha, ?_⟩
      walk_at "dl"
      cases h3 : waitsB r z with
      | true =>
        rw [h3] at hq
        walk_at "dl"
        exact retD_of (hq rfl)
      | false =>
        rw [h3] at hx
        walk_at "dl"
        exact retX_of (hx rfl)

/-! ### Room.leave(self, name): 0 self, 1 name, 2 one -/
def t_room_leave_5 (A : Adr) : DSt :=
  (dRet (dMth A.Room "settled" (m_room_settled A) (dVar 0) (dCons (dTup (dCons (dC (.str "left")) (dCons (dVar 1) dNil))) dNil)))
def t_room_leave_4 (A : Adr) : DSt :=
  (dSeq (dIfS (dAnd (dB (dIsN true (dFld A.Room "asking" (dVar 0)))) (dB (dOp oEq (dFld A.Room "asking" (dVar 0)) (dVar 1)))) (dFldS A.Room "asking" (dVar 0) (dC .non)) dNext)
  (t_room_leave_5 A))
def t_room_leave_3 (A : Adr) : DSt :=
  (dSeq (dIfS (dAnd (dB (dIsN true (dFld A.Room "alone" (dVar 0)))) (dB (dOp oEq (dFld A.Room "alone" (dVar 0)) (dVar 1)))) (dFldS A.Room "alone" (dVar 0) (dC .non)) dNext)
  (t_room_leave_4 A))
def t_room_leave_2 (A : Adr) : DSt :=
  (dSeq (dFldS A.Room "waiting" (dVar 0) (dLc (dItems (dFld A.Room "waiting" (dVar 0))) 2 (dB (dOp oNe (dOp oIx (dVar 2) (dC (.int 0))) (dVar 1))) (dVar 2)))
  (t_room_leave_3 A))
def t_room_leave_1 (A : Adr) : DSt :=
  (dSeq (dFldS A.Room "reading" (dVar 0) (dLc (dItems (dFld A.Room "reading" (dVar 0))) 2 (dB (dOp oNe (dVar 2) (dVar 1))) (dVar 2)))
  (t_room_leave_2 A))
def t_room_leave (A : Adr) : DSt :=
  (dSeq (dExpr (dMth A.Room "look" (m_room_look A) (dVar 0) (dCons (dVar 1) dNil)))
  (t_room_leave_1 A))
local macro_rules | `(tactic| walk_at "un") => `(tactic| simp only [t_room_leave_5, t_room_leave_4, t_room_leave_3, t_room_leave_2, t_room_leave_1, t_room_leave])
def m_room_leave (A : Adr) : FDm := fun ds M Q X => ∃ (a : Addr) (r : Rm) (n : D), ds = [.obj a, n] ∧ At A M a r ∧ okD n = true ∧ wgt r ≤ 800000 ∧ outQ A a (leaveO r n) M Q X
theorem len_room_leave (A : Adr) : ∀ ds M Q X, m_room_leave A ds M Q X → ds.length = 2 := fun ds M Q X ⟨_, _, _, h, _⟩ => by subst h; rfl
theorem read_room_leave (A : Adr) : ∀ ds M Q X, m_room_leave A ds M Q X → t_room_leave A (bodyE Q X) (startD 3 ds) M := by
  rintro ds M Q X ⟨a, r, n, rfl, ha, hn, hs, h⟩
  have hM : M a = some (.ins A.Room (flds r)) := ha
  unfold leaveO at h
  unfold t_room_leave
  walk_at "dl"
  rw [hM]
  walk_at "dl"
  refine ⟨a, r, n, rfl, ha, hn, fun e => ?_, fun e => ?_⟩
  · rw [if_pos e] at h
    exact retX_of h
  rw [if_neg (bt_ne e)] at h
  obtain ⟨z, rfl⟩ := hereB_str e
  simp only at h
  unfold t_room_leave_1
  walk_at "dl"
  rw [hM]
  walk_at "dl"
  refine lc_pure (keepS z) id (fun x hx M1 hs Qb q => ?_) (fun x hx _ M1 hs Qd q => ?_) ?_
  · obtain ⟨y, hy, rfl⟩ := List.mem_map.mp hx
    walk_at "dl"
    exact q
  · walk_at "dl"
    exact q
  rw [keepS_names]
  walk_at "dl"
  rw [hM]
  walk_at "dl"
  unfold t_room_leave_2
  walk_at "dl"
  refine lc_pure (keepW z) id (fun x hx M1 hs Qb q => ?_) (fun x hx _ M1 hs Qd q => ?_) ?_
  · unfold eLine at hx
    obtain ⟨w, hw, rfl⟩ := List.mem_map.mp hx
    unfold eW
    walk_at "dl"
    exact q
  · walk_at "dl"
    exact q
  rw [keepW_line]
  walk_at "dl"
  have hw1 : (r.reading.filter (fun y => !decide (y = z))).length ≤ r.reading.length := List.length_filter_le _ _
  have hw2 : (r.waiting.filter (fun w => !decide (w.name = z))).length ≤ r.waiting.length := List.length_filter_le _ _
  generalize hr' : goneR r z = r' at h
  unfold goneR at hr'
  generalize r.reading.filter (fun y => !decide (y = z)) = rd at hw1 hr' ⊢
  generalize r.waiting.filter (fun w => !decide (w.name = z)) = wt at hw2 hr' ⊢
  unfold wgt at hs
  have fin : ∀ al as, r' = { r with reading := rd, waiting := wt, alone := al, asking := as } → t_room_leave_5 A (bodyE Q X) [some (.obj a), some (.str z), none] (M.set a (.ins A.Room (flds { r with reading := rd, waiting := wt, alone := al, asking := as }))) := fun al as e => by
    unfold t_room_leave_5
    walk_at "dl"
    rw [← e]
    refine settled_by (x := .left z) Mem.set_same (fun r' => Mem.set_set) (fun p hp => set_none hp) ?_ h
    rw [e]
    unfold wgt
    simp only
    have : cond as.isSome 2 0 ≤ 2 := by cases as <;> simp
    omega
  have fin4 : ∀ al, (if r.alone = some z then none else r.alone) = al → t_room_leave_4 A (bodyE Q X) [some (.obj a), some (.str z), none] (M.set a (.ins A.Room (flds { r with reading := rd, waiting := wt, alone := al }))) := fun al e => by
    unfold t_room_leave_4
    walk_at "dl"
    rw [e] at hr'
    cases hk : r.asking with
    | none =>
      rw [hk] at hr'
      show cond false _ _
      rw [cond_false]
      exact fin al none (by rw [← hr']; rfl)
    | some y =>
      rw [hk] at hr'
      show cond true _ _
      rw [cond_true]
      walk_at "dl"
      refine cond_dec (fun e2 => ?_) fun e2 => ?_
      · rw [if_pos (by rw [e2])] at hr'
        exact fin al none hr'.symm
      · rw [if_neg (fun e3 => e2 (Option.some.inj e3))] at hr'
        exact fin al (some y) hr'.symm
  unfold t_room_leave_3
  walk_at "dl"
  cases hk : r.alone with
  | none =>
    rw [hk] at fin4
    show cond false _ _
    rw [cond_false]
    exact fin4 none rfl
  | some y =>
    rw [hk] at fin4
    show cond true _ _
    rw [cond_true]
    walk_at "dl"
    refine cond_dec (fun e2 => ?_) fun e2 => ?_
    · exact fin4 none (if_pos (by rw [e2]))
    · exact fin4 (some y) (if_neg (fun e3 => e2 (Option.some.inj e3)))

/-! ### Room.ask(self, name): 0 self, 1 name -/
def t_room_ask_5 (A : Adr) : DSt :=
  (dRet (dMth A.Room "settled" (m_room_settled A) (dVar 0) (dCons (dTup (dCons (dC (.str "asked")) (dCons (dVar 1) dNil))) dNil)))
def t_room_ask_4 (A : Adr) : DSt :=
  (dSeq (dFldS A.Room "asking" (dVar 0) (dVar 1))
  (t_room_ask_5 A))
def t_room_ask_3 (A : Adr) : DSt :=
  (dSeq (dIfS (dB (dIsN true (dFld A.Room "asking" (dVar 0)))) (dRaise A.Asked) dNext)
  (t_room_ask_4 A))
def t_room_ask_2 (A : Adr) : DSt :=
  (dSeq (dIfS (dB (dIsN true (dFld A.Room "alone" (dVar 0)))) (dRaise A.Writes) dNext)
  (t_room_ask_3 A))
def t_room_ask_1 (A : Adr) : DSt :=
  (dSeq (dIfS (dB (dMth A.Room "is_waiting" (m_room_is_waiting A) (dVar 0) (dCons (dVar 1) dNil))) (dRaise A.Outside) dNext)
  (t_room_ask_2 A))
def t_room_ask (A : Adr) : DSt :=
  (dSeq (dExpr (dMth A.Room "look" (m_room_look A) (dVar 0) (dCons (dVar 1) dNil)))
  (t_room_ask_1 A))
local macro_rules | `(tactic| walk_at "un") => `(tactic| simp only [t_room_ask_5, t_room_ask_4, t_room_ask_3, t_room_ask_2, t_room_ask_1, t_room_ask])
def m_room_ask (A : Adr) : FDm := fun ds M Q X => ∃ (a : Addr) (r : Rm) (n : D), ds = [.obj a, n] ∧ At A M a r ∧ okD n = true ∧ wgt r ≤ 800000 ∧ outQ A a (askO r n) M Q X
theorem len_room_ask (A : Adr) : ∀ ds M Q X, m_room_ask A ds M Q X → ds.length = 2 := fun ds M Q X ⟨_, _, _, h, _⟩ => by subst h; rfl
theorem read_room_ask (A : Adr) : ∀ ds M Q X, m_room_ask A ds M Q X → t_room_ask A (bodyE Q X) (startD 2 ds) M := by
  rintro ds M Q X ⟨a, r, n, rfl, ha, hn, hs, h⟩
  have hM : M a = some (.ins A.Room (flds r)) := ha
  unfold askO at h
  unfold t_room_ask
  walk_at "dl"
  rw [hM]
  walk_at "dl"
  refine ⟨a, r, n, rfl, ha, hn, fun e => ?_, fun e => ?_⟩
  · rw [if_pos e] at h
    exact retX_of h
  rw [if_neg (bt_ne e)] at h
  obtain ⟨z, rfl⟩ := hereB_str e
  simp only at h
  unfold t_room_ask_1
  walk_at "dl"
  rw [hM]
  walk_at "dl"
  refine ⟨a, r, z, rfl, ha, ?_⟩
  walk_at "dl"
  refine cond_of (fun e => ?_) fun e => ?_
  · rw [if_pos e] at h
    exact retX_of h
  rw [if_neg (bf_ne e)] at h
  unfold t_room_ask_2
  walk_at "dl"
  rw [hM]
  walk_at "dl"
  cases hr : r.alone with
  | some y =>
    rw [hr] at h
    show cond true _ _
    rw [cond_true]
    exact retX_of h
  | none =>
    rw [hr] at h
    show cond false _ _
    rw [cond_false]
    unfold t_room_ask_3
    walk_at "dl"
    rw [hM]
    walk_at "dl"
    cases hk : r.asking with
    | some y =>
      rw [hk] at h
      show cond true _ _
      rw [cond_true]
      exact retX_of h
    | none =>
      rw [hk] at h
      show cond false _ _
      rw [cond_false]
      unfold t_room_ask_4 t_room_ask_5
      walk_at "dl"
      rw [hM]
      walk_at "dl"
      rw [hr]
      refine settled_by (x := .asked z) Mem.set_same (fun r' => Mem.set_set) (fun p hp => set_none hp) ?_ h
      unfold wgt at hs ⊢
      rw [hk] at hs
      simp only [Option.isSome_some, Option.isSome_none, cond_true, cond_false] at hs ⊢
      omega

/-! ### Room.ease(self, name): 0 self, 1 name -/
def t_room_ease_5 (A : Adr) : DSt :=
  (dRet (dMth A.Room "settled" (m_room_settled A) (dVar 0) (dCons (dTup (dCons (dC (.str "eased")) (dCons (dVar 1) dNil))) dNil)))
def t_room_ease_4 (A : Adr) : DSt :=
  (dSeq (dFldS A.Room "reading" (dVar 0) (dLst (dCons (dVar 1) dNil)))
  (t_room_ease_5 A))
def t_room_ease_3 (A : Adr) : DSt :=
  (dSeq (dFldS A.Room "alone" (dVar 0) (dC .non))
  (t_room_ease_4 A))
def t_room_ease_2 (A : Adr) : DSt :=
  (dSeq (dIfS (dB (dIsN false (dFld A.Room "alone" (dVar 0)))) (dRaise A.Reads) dNext)
  (t_room_ease_3 A))
def t_room_ease_1 (A : Adr) : DSt :=
  (dSeq (dIfS (dB (dMth A.Room "is_waiting" (m_room_is_waiting A) (dVar 0) (dCons (dVar 1) dNil))) (dRaise A.Outside) dNext)
  (t_room_ease_2 A))
def t_room_ease (A : Adr) : DSt :=
  (dSeq (dExpr (dMth A.Room "look" (m_room_look A) (dVar 0) (dCons (dVar 1) dNil)))
  (t_room_ease_1 A))
local macro_rules | `(tactic| walk_at "un") => `(tactic| simp only [t_room_ease_5, t_room_ease_4, t_room_ease_3, t_room_ease_2, t_room_ease_1, t_room_ease])
def m_room_ease (A : Adr) : FDm := fun ds M Q X => ∃ (a : Addr) (r : Rm) (n : D), ds = [.obj a, n] ∧ At A M a r ∧ okD n = true ∧ wgt r ≤ 800000 ∧ outQ A a (easeO r n) M Q X
theorem len_room_ease (A : Adr) : ∀ ds M Q X, m_room_ease A ds M Q X → ds.length = 2 := fun ds M Q X ⟨_, _, _, h, _⟩ => by subst h; rfl
theorem read_room_ease (A : Adr) : ∀ ds M Q X, m_room_ease A ds M Q X → t_room_ease A (bodyE Q X) (startD 2 ds) M := by
  rintro ds M Q X ⟨a, r, n, rfl, ha, hn, hs, h⟩
  have hM : M a = some (.ins A.Room (flds r)) := ha
  unfold easeO at h
  unfold t_room_ease
  walk_at "dl"
  rw [hM]
  walk_at "dl"
  refine ⟨a, r, n, rfl, ha, hn, fun e => ?_, fun e => ?_⟩
  · rw [if_pos e] at h
    exact retX_of h
  rw [if_neg (bt_ne e)] at h
  obtain ⟨z, rfl⟩ := hereB_str e
  simp only at h
  unfold t_room_ease_1
  walk_at "dl"
  rw [hM]
  walk_at "dl"
  refine ⟨a, r, z, rfl, ha, ?_⟩
  walk_at "dl"
  refine cond_of (fun e => ?_) fun e => ?_
  · rw [if_pos e] at h
    exact retX_of h
  rw [if_neg (bf_ne e)] at h
  unfold t_room_ease_2
  walk_at "dl"
  rw [hM]
  walk_at "dl"
  cases hr : r.alone with
  | none =>
    rw [hr] at h
    show cond true _ _
    rw [cond_true]
    exact retX_of h
  | some y =>
    rw [hr] at h
    show cond false _ _
    rw [cond_false]
    unfold t_room_ease_3 t_room_ease_4 t_room_ease_5
    walk_at "dl"
    rw [hM]
    walk_at "dl"
    refine settled_by (x := .eased z) Mem.set_same (fun r' => Mem.set_set) (fun p hp => set_none hp) ?_ h
    unfold wgt at hs ⊢
    simp only [List.length_singleton]
    omega

/-! ### redone(room, row): 0 room, 1 row -/
def t_redone_3 (A : Adr) : DSt :=
  (dRet (dFrz (dMth A.Room "ease" (m_room_ease A) (dVar 0) (dCons (dOp oIx (dVar 1) (dC (.int 1))) dNil))))
def t_redone_2 (A : Adr) : DSt :=
  (dSeq (dIfS (dB (dOp oEq (dOp oIx (dVar 1) (dC (.int 0))) (dC (.str "asked")))) (dRet (dFrz (dMth A.Room "ask" (m_room_ask A) (dVar 0) (dCons (dOp oIx (dVar 1) (dC (.int 1))) dNil)))) dNext)
  (t_redone_3 A))
def t_redone_1 (A : Adr) : DSt :=
  (dSeq (dIfS (dB (dOp oEq (dOp oIx (dVar 1) (dC (.int 0))) (dC (.str "left")))) (dRet (dFrz (dMth A.Room "leave" (m_room_leave A) (dVar 0) (dCons (dOp oIx (dVar 1) (dC (.int 1))) dNil)))) dNext)
  (t_redone_2 A))
def t_redone (A : Adr) : DSt :=
  (dSeq (dIfS (dB (dOp oEq (dOp oIx (dVar 1) (dC (.int 0))) (dC (.str "came")))) (dRet (dFrz (dMth A.Room "come" (m_room_come A) (dVar 0) (dCons (dOp oIx (dVar 1) (dC (.int 1))) (dCons (dOp oIx (dVar 1) (dC (.int 2))) dNil))))) dNext)
  (t_redone_1 A))
local macro_rules | `(tactic| walk_at "un") => `(tactic| simp only [t_redone_3, t_redone_2, t_redone_1, t_redone])
def m_redone (A : Adr) : FDm := fun ds M Q X => ∃ (a : Addr) (r : Rm) (w : PR), ds = [.obj a, .tup (w.words.map .str)] ∧ At A M a r ∧ wgt r ≤ 800000 ∧ (∀ x y, w ≠ .begins x y) ∧ (match doW r w with | .no C => X (C.at A) M | .did l r' => Q (.lst (ePs l)) (M.set a (.ins A.Room (flds r'))))
theorem len_redone (A : Adr) : ∀ ds M Q X, m_redone A ds M Q X → ds.length = 2 := fun ds M Q X ⟨_, _, _, h, _⟩ => by subst h; rfl
theorem word_ne : ¬ Str.ofString "left" = Str.ofString "came" ∧ ¬ Str.ofString "asked" = Str.ofString "came" ∧ ¬ Str.ofString "eased" = Str.ofString "came" ∧ ¬ Str.ofString "asked" = Str.ofString "left" ∧ ¬ Str.ofString "eased" = Str.ofString "left" ∧ ¬ Str.ofString "eased" = Str.ofString "asked" := by decide +kernel
theorem read_redone (A : Adr) : ∀ ds M Q X, m_redone A ds M Q X → t_redone A (bodyE Q X) (startD 2 ds) M := by
  rintro ds M Q X ⟨a, r, w, rfl, ha, hw, hb, h⟩
  have hM : M a = some (.ins A.Room (flds r)) := ha
  obtain ⟨n1, n2, n3, n4, n5, n6⟩ := word_ne
  have key : ∀ (o : Out) (X' : Addr → Mem → Prop), o = doW r w → (∀ C : Rf, X (C.at A) M → X' (C.at A) M) → outQ A a o M (fun d M1 => frz d M1 (retD Q)) X' := fun o X' eo hX => by
    subst eo
    cases ho : doW r w with
    | no c =>
      rw [ho] at h
      exact hX c h
    | did l r' =>
      rw [ho] at h
      intro p hp
      have hpa : p ≠ a := fun e => by
        subst e
        rw [hM] at hp
        cases hp
      show frz _ _ _
      rw [frz_set_lst, Mem.del_set (by rw [Mem.set_ne hpa]; exact hp)]
      exact retD_of h
  unfold t_redone
  cases w with
  | came x y =>
    unfold PR.words
    walk_at "dl"
    rw [show decide True = true from rfl, cond_true, hM]
    walk_at "dl"
    exact ⟨a, r, _, _, rfl, ha, rfl, rfl, hw, key _ _ rfl fun C q => retX_of q⟩
  | begins x y => exact absurd rfl (hb x y)
  | left x =>
    unfold PR.words t_redone_1
    walk_at "dl"
    rw [decide_eq_false n1, cond_false, show decide True = true from rfl, cond_true, hM]
    walk_at "dl"
    exact ⟨a, r, _, rfl, ha, rfl, hw, key _ _ rfl fun C q => retX_of q⟩
  | asked x =>
    unfold PR.words t_redone_1 t_redone_2
    walk_at "dl"
    rw [decide_eq_false n2, cond_false, decide_eq_false n4, cond_false, show decide True = true from rfl, cond_true, hM]
    walk_at "dl"
    exact ⟨a, r, _, rfl, ha, rfl, hw, key _ _ rfl fun C q => retX_of q⟩
  | eased x =>
    unfold PR.words t_redone_1 t_redone_2 t_redone_3
    walk_at "dl"
    rw [decide_eq_false n3, cond_false, decide_eq_false n5, cond_false, decide_eq_false n6, cond_false, hM]
    walk_at "dl"
    exact ⟨a, r, _, rfl, ha, rfl, hw, key _ _ rfl fun C q => retX_of q⟩

/-! ### gone_through(room, rows): 0 room, 1 rows, 2 due, 3 place, 4 row -/
def t_gone_through_L1_1 (K : PySem.W.Frag) (A : Adr) : DSt :=
  (dIfS (dB (dOp oNe (dVar 2) (dLst dNil))) (dSeq (dIfS (dB (dOp oNe (dVar 4) (dTup (dCons (dC (.str "begins")) (dCons (dOp oIx (dOp oIx (dVar 2) (dC (.int 0))) (dC (.int 0))) (dCons (dOp oIx (dOp oIx (dVar 2) (dC (.int 0))) (dC (.int 1))) dNil)))))) (dRet (dVar 3)) dNext)
  (dSet 2 (dSl (dVar 2) (dPart (dC (.int 1))) dNoPart))) (dIfS (dB (dOp oEq (dOp oIx (dVar 4) (dC (.int 0))) (dC (.str "begins")))) (dRet (dVar 3)) (dTry K (.ref A.RoomError) (dSet 2 (dFn (m_redone A) (dCons (dVar 0) (dCons (dVar 4) dNil)))) (dRet (dVar 3)))))
def t_gone_through_L1 (K : PySem.W.Frag) (A : Adr) : DSt :=
  (dSeq (dIfS (dNot (dB (dFn m_is_row (dCons (dVar 4) dNil)))) (dRet (dVar 3)) dNext)
  (t_gone_through_L1_1 K A))
def t_gone_through_3 (K : PySem.W.Frag) (A : Adr) : DSt :=
  (dRet (dC .non))
def t_gone_through_2 (K : PySem.W.Frag) (A : Adr) : DSt :=
  (dSeq (dIfS (dB (dOp oNe (dVar 2) (dLst dNil))) (dRet (dCall (on1 lenD) (dCons (dVar 1) dNil))) dNext)
  (t_gone_through_3 K A))
def t_gone_through_1 (K : PySem.W.Frag) (A : Adr) : DSt :=
  (dSeq (dFor (dEnum (dCons (dVar 1) dNil)) (dgPair 3 4) (t_gone_through_L1 K A))
  (t_gone_through_2 K A))
def t_gone_through (K : PySem.W.Frag) (A : Adr) : DSt :=
  (dSeq (dSet 2 (dLst dNil))
  (t_gone_through_1 K A))
local macro_rules | `(tactic| walk_at "un") => `(tactic| simp only [t_gone_through_3, t_gone_through_2, t_gone_through_1, t_gone_through])
-- NEEDS_TXT K A (fun c => match c with | .name => T.e_BadName_RoomError | .wish => T.e_BadWish_RoomError | .known => T.e_Known_RoomError | .stranger => T.e_Stranger_RoomError | .outside => T.e_Outside_RoomError | .reads => T.e_Reads_RoomError | .writes => T.e_Writes_RoomError | .asked => T.e_Asked_RoomError)
def m_gone_through (A : Adr) : FDm := fun ds M Q _ => ∃ (a : Addr) (r : Rm) (d : D) (rows : List D), ds = [.obj a, d] ∧ Vw d rows M ∧ At A M a r ∧ Inv r ∧ wgt r + 3 * rows.length ≤ 800000 ∧ (∀ x ∈ rows, itemF M x) ∧
  match gtGo 0 r [] rows with
  | .stop k => ∀ r', Q (.int (k : Int)) (M.set a (.ins A.Room (flds r')))
  | .ok r' due => Q (goneV rows.length (.ok r' due)) (M.set a (.ins A.Room (flds r')))
theorem len_gone_through (A : Adr) : ∀ ds M Q X, m_gone_through A ds M Q X → ds.length = 2 := fun ds M Q X ⟨_, _, _, _, h, _⟩ => by subst h; rfl
theorem take_snoc {α : Type} {l : List α} {k : Nat} {x : α} (h : l[k]? = some x) : l.take (k + 1) = l.take k ++ [x] := by
  rw [List.take_succ, h]; rfl
theorem gtGo_stop {r : Rm} {rows : List D} {k : Nat} {x : D} {r1 : Rm} {due : Due} (h : rows[k]? = some x) (hk : gtGo 0 r [] (rows.take k) = .ok r1 due) (hs : stepO r1 due x = none) : gtGo 0 r [] rows = .stop k := by
  rw [split_at h, gtGo_app, hk]
  simp only
  rw [gtGo_cons, hs]
  have : (rows.take k).length = k := by
    have := (List.getElem?_eq_some_iff.mp h).1
    rw [List.length_take]; omega
  rw [this, Nat.zero_add]
theorem gtGo_next {r : Rm} {rows : List D} {k : Nat} {x : D} {r1 r2 : Rm} {due due2 : Due} (h : rows[k]? = some x) (hk : gtGo 0 r [] (rows.take k) = .ok r1 due) (hs : stepO r1 due x = some (r2, due2)) : gtGo 0 r [] (rows.take (k + 1)) = .ok r2 due2 := by
  rw [take_snoc h, gtGo_app, hk]
  simp only
  rw [gtGo_cons, hs]
  rfl
theorem flat_words (w : PR) : flatN 9 (.tup (w.words.map .str)) = true := by
  rw [flatN_tup]
  exact flat_strs _ _
theorem begins_words : ∀ (w : PR) (p : Str × Bool), D.eqv (.tup (w.words.map .str)) (.tup [.str (Str.ofString "begins"), .str p.1, .str (wishS p.2)]) = true ↔ w = .begins p.1 (wishS p.2) := by
  intro w p
  rw [eqv_tup]
  rw [show [D.str (Str.ofString "begins"), D.str p.1, D.str (wishS p.2)] = [Str.ofString "begins", p.1, wishS p.2].map .str from rfl, eqv_strs]
  cases w with
  | came x y =>
    refine ⟨fun h => ?_, (fun h => by cases h)⟩
    have h : [Str.ofString "came", x, y] = _ := h
    simp only [List.cons.injEq] at h
    exact absurd h.1 (by decide +kernel)
  | begins x y =>
    show [Str.ofString "begins", x, y] = _ ↔ _
    simp only [List.cons.injEq, true_and, and_true, PR.begins.injEq]
  | left x => exact ⟨(fun h => by have := congrArg List.length h; cases this), (fun h => by cases h)⟩
  | asked x => exact ⟨(fun h => by have := congrArg List.length h; cases this), (fun h => by cases h)⟩
  | eased x => exact ⟨(fun h => by have := congrArg List.length h; cases this), (fun h => by cases h)⟩
theorem begins_head : ∀ w : PR, ∃ l, w.words = (match w with | .came _ _ => Str.ofString "came" | .begins _ _ => Str.ofString "begins" | .left _ => Str.ofString "left" | .asked _ => Str.ofString "asked" | .eased _ => Str.ofString "eased") :: l := by
  intro w
  cases w <;> exact ⟨_, rfl⟩
theorem read_gone_through (K : PySem.W.Frag) (A : Adr) (he : ∀ c : Rf, PySem.W.exmOne K (.ref (c.at A)) (.ref A.RoomError) = some true) : ∀ ds M Q X, m_gone_through A ds M Q X → t_gone_through K A (bodyE Q X) (startD 5 ds) M := by
  rintro ds M Q X ⟨a, r, d, rows, rfl, hv, ha, I, hw, hok, h⟩
  have hM : M a = some (.ins A.Room (flds r)) := ha
  unfold t_gone_through t_gone_through_1
  walk_at "dl"
  refine hv.enumW fun P hP => ?_
  refine ⟨fun k δ M' => ∃ (r' : Rm) (due : Due), M' = M.set a (.ins A.Room (flds r')) ∧ gtGo 0 r [] (rows.take k) = .ok r' due ∧ Inv r' ∧ wgt r' ≤ wgt r + 3 * k ∧ ∃ o3 o4 : Option D, δ = [some (.obj a), some d, some (.lst (ePs due)), o3, o4],
    ⟨r, [], by rw [Mem.set_eq hM], rfl, I, by omega, _, _, rfl⟩, ?_, ?_⟩
  · rintro k x δ M' hx ⟨r1, due, rfl, hk, I1, w1, o3, o4, rfl⟩
    have hat : (M.set a (.ins A.Room (flds r1))) a = some (.ins A.Room (flds r1)) := Mem.set_same
    refine ⟨hP _ (hv.room ha _), ?_⟩
    rw [enumD_get] at hx
    obtain ⟨y, hy, rfl⟩ := Option.map_eq_some_iff.mp hx
    rw [Nat.zero_add]
    have hkl := (List.getElem?_eq_some_iff.mp hy).1
    have hym := List.mem_of_getElem? hy
    have stop : stepO r1 due y = none → retD Q (.int (k : Int)) (M.set a (.ins A.Room (flds r1))) := fun e => by
      rw [gtGo_stop hy hk e] at h
      exact retD_of (h r1)
    walk_at "dl"
    unfold t_gone_through_L1
    walk_at "dl"
    refine ⟨y, rfl, item_ins hM (hok y hym), ?_⟩
    cases hp : parseD y with
    | none =>
      walk_at "dl"
      exact stop (by unfold stepO; rw [hp])
    | some w =>
      have ey := parse_words hp
      have hso : stepO r1 due y = stepW r1 due w := by unfold stepO; rw [hp]
      rw [hso] at stop
      subst ey
      walk_at "dl"
      unfold t_gone_through_L1_1
      walk_at "dl"
      refine ⟨flat_ePs _, rfl, ?_⟩
      rw [eqv_nil]
      cases due with
      | cons p rest =>
        show cond true _ _
        rw [cond_true]
        rw [show nth (ePs (p :: rest)) 0 = some (eP p) from rfl, el_some]
        unfold eP
        walk_at "dl"
        refine ⟨flat_words w, by rw [flatN_tup]; exact flat_strs 8 [Str.ofString "begins", p.1, wishS p.2], ?_⟩
        cases e : D.eqv (.tup (w.words.map .str)) (.tup [.str (Str.ofString "begins"), .str p.1, .str (wishS p.2)]) with
        | true =>
          have ew := (begins_words w p).mp e
          show cond false _ _
          rw [cond_false]
          have e1 : dcut (ePs (p :: rest)) (some 1) none = ePs rest := dcut_drop (ePs (p :: rest)) 0
          rw [e1]
          refine ⟨r1, rest, rfl, gtGo_next hy hk (by rw [hso, ew]; exact if_pos ⟨rfl, rfl⟩), I1, by omega, _, _, rfl⟩
        | false =>
          show cond true _ _
          rw [cond_true]
          refine stop ?_
          cases w with
          | begins x y =>
            refine if_neg fun hh => ?_
            have := (begins_words (.begins x y) p).mpr (by rw [hh.1, hh.2])
            rw [this] at e; cases e
          | _ => rfl
      | nil =>
        show cond false _ _
        rw [cond_false]
        have nb : ∀ (Q' : QD) (X' : Addr → Mem → Prop), (∀ x y, w ≠ .begins x y) → (∀ (r' : Rm) (due' : Due), gtGo 0 r [] (rows.take (k + 1)) = .ok r' due' → Inv r' → wgt r' ≤ wgt r + 3 * (k + 1) → Q' (.lst (ePs due')) (M.set a (.ins A.Room (flds r')))) →
            (∀ C : Rf, retD Q (.int (k : Int)) (M.set a (.ins A.Room (flds r1))) → X' (C.at A) (M.set a (.ins A.Room (flds r1)))) → m_redone A [.obj a, .tup (w.words.map .str)] (M.set a (.ins A.Room (flds r1))) Q' X' := fun Q' X' hnb hQ hX => by
          refine ⟨a, r1, w, rfl, hat, by omega, hnb, ?_⟩
          cases ho : doW r1 w with
          | no C => exact hX C (stop (by show (match doW r1 w with | .did l r' => some (r', l) | .no _ => none) = none; rw [ho]))
          | did l r' =>
            obtain ⟨dd, hdk, _, hdo⟩ := doW_did ho
            obtain ⟨i1, i2, i3, i4, i5⟩ := deed_inv I1 dd hdo
            show Q' _ _
            rw [Mem.set_set]
            exact hQ r' l (gtGo_next hy hk (by rw [hso]; show (match doW r1 w with | .did l r' => some (r', l) | .no _ => none) = _; rw [ho])) i1 (by omega)
        cases w with
        | begins x y =>
          rw [show nth ((PR.begins x y).words.map D.str) 0 = some (.str (Str.ofString "begins")) from rfl, el_some]
          walk_at "dl"
          rw [show decide True = true from rfl, cond_true]
          exact stop rfl
        | came x y =>
          rw [show nth ((PR.came x y).words.map D.str) 0 = some (.str (Str.ofString "came")) from rfl, el_some]
          walk_at "dl"
          rw [decide_eq_false (show ¬ Str.ofString "came" = Str.ofString "begins" by decide +kernel), cond_false]
          exact nb _ _ (fun _ _ e => by cases e) (fun r' due' g i w => ⟨r', due', rfl, g, i, w, _, _, rfl⟩) fun C q => ⟨he C, q⟩
        | left x =>
          rw [show nth ((PR.left x).words.map D.str) 0 = some (.str (Str.ofString "left")) from rfl, el_some]
          walk_at "dl"
          rw [decide_eq_false (show ¬ Str.ofString "left" = Str.ofString "begins" by decide +kernel), cond_false]
          exact nb _ _ (fun _ _ e => by cases e) (fun r' due' g i w => ⟨r', due', rfl, g, i, w, _, _, rfl⟩) fun C q => ⟨he C, q⟩
        | asked x =>
          rw [show nth ((PR.asked x).words.map D.str) 0 = some (.str (Str.ofString "asked")) from rfl, el_some]
          walk_at "dl"
          rw [decide_eq_false (show ¬ Str.ofString "asked" = Str.ofString "begins" by decide +kernel), cond_false]
          exact nb _ _ (fun _ _ e => by cases e) (fun r' due' g i w => ⟨r', due', rfl, g, i, w, _, _, rfl⟩) fun C q => ⟨he C, q⟩
        | eased x =>
          rw [show nth ((PR.eased x).words.map D.str) 0 = some (.str (Str.ofString "eased")) from rfl, el_some]
          walk_at "dl"
          rw [decide_eq_false (show ¬ Str.ofString "eased" = Str.ofString "begins" by decide +kernel), cond_false]
          exact nb _ _ (fun _ _ e => by cases e) (fun r' due' g i w => ⟨r', due', rfl, g, i, w, _, _, rfl⟩) fun C q => ⟨he C, q⟩
  · rintro δ M' ⟨r1, due, rfl, hk, I1, w1, o3, o4, rfl⟩
    refine ⟨hP _ (hv.room ha _), ?_⟩
    rw [enumD_len, List.take_of_length_le (Nat.le_refl _)] at hk
    rw [hk] at h
    unfold t_gone_through_2
    walk_at "dl"
    refine ⟨flat_ePs _, rfl, ?_⟩
    rw [eqv_nil]
    cases due with
    | nil =>
      show cond false _ _
      rw [cond_false]
      unfold t_gone_through_3
      walk_at "dl"
      exact retD_of h
    | cons p rest =>
      show cond true _ _
      rw [cond_true]
      rw [(hv.room ha _).res]
      walk_at "dl"
      exact retD_of h

/-! ### is_number(thing, least): 0 thing, 1 least -/
def t_is_number  : DSt :=
  (dRet (dAndV (dCall (on2 isiD) (dCons (dVar 0) (dCons (dC (.ty "int")) dNil))) (dAndV (dNotV (dCall (on2 isiD) (dCons (dVar 0) (dCons (dC (.ty "bool")) dNil)))) (dChain oLe oLe (dVar 1) (dVar 0) (dC (.int 1000000000))))))
local macro_rules | `(tactic| walk_at "un") => `(tactic| simp only [t_is_number])
def isNum (d : D) (l : Int) : Bool := match d with
  | .int i => decide (l ≤ i) && decide (i ≤ 1000000000)
  | _ => false
def m_is_number : FDm := fun ds M Q _ => match ds with
  | [d, .int l] => okD d = true ∧ Q (.bl (isNum d l)) M
  | _ => False
theorem len_is_number : ∀ ds M Q X, m_is_number ds M Q X → ds.length = 2 := fun ds M Q X h => by
  unfold m_is_number at h
  split at h <;> first | rfl | exact h.elim
theorem read_is_number : ∀ ds M Q X, m_is_number ds M Q X → t_is_number (bodyE Q X) (startD 2 ds) M := by
  intro ds M Q X h
  unfold m_is_number at h
  split at h
  rotate_left
  · exact h.elim
  rename_i d l
  obtain ⟨hd, h⟩ := h
  walk_at "un"
  cases d with
  | scr b => cases hd
  | obj b => cases hd
  | ty b => cases hd
  | int i =>
    walk_at "dl"
    unfold isNum at h
    simp only at h
    refine cond_dec (fun e => ?_) fun e => ?_
    · rw [decide_eq_true e, Bool.true_and] at h
      exact retD_of h
    · rw [decide_eq_false e, Bool.false_and] at h
      exact retD_of h
  | _ =>
    walk_at "dl"
    exact retD_of h
-- SIMP m_is_number

local macro_rules | `(tactic| walk_at "dl") => `(tactic| try simp -implicitDefEqProofs only [DL.dNext, DL.dSeq, DL.dExpr, DL.dRet, DL.dIfS, DL.dSet, DL.dCont, DL.dRaise, DL.dFor, DL.dgName, DL.dgPair, DL.dTry, DL.dFn, DL.dMth, DL.dMk, DL.dFld, DL.dFldS, DL.dPut, DL.dVar, DL.slot, DL.dC, DL.dOp, DL.dUn, DL.oSub, DL.oMul, DL.oDiv, DL.oMod, DL.oPow, DL.oLt, DL.oLe, DL.oGt, DL.oGe, DL.oEq, DL.oNe, DL.oIn, DL.oNotIn, DL.dB, DL.dIsN, DL.dChain, DL.dAnd, DL.dOr, DL.dNot, DL.dAndV, DL.dOrV, DL.dNotV, DL.dIf, DL.dNil, DL.dCons, DL.few, DL.dLst, DL.dTup, DL.dLstM, DL.dFrz, DL.dPairs, DL.dDisp, DL.dDic0, DL.dSl, DL.dNoPart, DL.dCall, DL.dMet0L, DL.dMet, DL.dItems, DL.dRange1, DL.dEnum, DL.dLcM, DL.dwipe, DL.startD, DL.dNever, DL.el_some, DL.elL_lst, DL.elD_dic, DL.elI_ins, DL.res_non, DL.res_bl, DL.res_int, DL.res_str, DL.res_lst, DL.res_tupE, DL.res_dic, DL.res_scr, DL.res_ty, DL.oAdd_eq, DL.addR_int, DL.addR_str, DL.addR_lst, DL.addR_tup, DL.oAddM_eq, DL.addMR_lst, DL.oInt_eq, DL.intR_int, DL.oInt0_eq, DL.int0R_int, DL.oNeg_eq, DL.negR_int, DL.oEqN_eq, DL.eqR_some, DL.eqR_none, DL.eqS_non_non, DL.eqS_non_int, DL.eqS_non_bl, DL.eqS_non_str, DL.eqS_non_lst, DL.eqS_non_tup, DL.eqS_int_non, DL.eqS_int_int, DL.eqS_int_bl, DL.eqS_int_str, DL.eqS_int_lst, DL.eqS_int_tup, DL.eqS_bl_non, DL.eqS_bl_int, DL.eqS_bl_bl, DL.eqS_bl_str, DL.eqS_bl_lst, DL.eqS_bl_tup, DL.eqS_str_non, DL.eqS_str_int, DL.eqS_str_bl, DL.eqS_str_str, DL.eqS_str_lst, DL.eqS_str_tup, DL.eqS_lst_non, DL.eqS_lst_int, DL.eqS_lst_bl, DL.eqS_lst_str, DL.eqS_lst_lst, DL.eqS_lst_tup, DL.eqS_tup_non, DL.eqS_tup_int, DL.eqS_tup_bl, DL.eqS_tup_str, DL.eqS_tup_lst, DL.eqS_tup_tup, DL.eqS_obj_non, DL.eqS_non_obj, DL.eqS_obj_int, DL.eqS_int_obj, DL.eqS_obj_bl, DL.eqS_bl_obj, DL.eqS_obj_str, DL.eqS_str_obj, DL.eqS_obj_lst, DL.eqS_lst_obj, DL.eqS_obj_tup, DL.eqS_tup_obj, DL.eqS_obj_obj, DL.oInN_eq, DL.inR_lst, DL.inR_tup, DL.inR_str, DL.flatD_non, DL.flatD_bl, DL.flatD_int, DL.flatD_str, DL.asB_bl, DL.isN_non, DL.isN_bl, DL.isN_int, DL.isN_str, DL.isN_lst, DL.isN_tup, DL.isN_dic, DL.isN_scr, DL.isN_ty, DL.isN_obj, DL.frz_non, DL.frz_bl, DL.frz_int, DL.frz_str, DL.frz_lst, DL.frz_tup, DL.frz_dic, DL.frz_scr, DL.frz_ty, DL.oIx_eq, DL.ixR_lst, DL.ixR_tup, DL.ixR_scr, DL.ixR_str, DL.ixR_dic, DL.nth_0, DL.nth_1, DL.nth_2, DL.nth_3, DL.oSl_eq, DL.slR_lst, DL.slR_tup, DL.slR_str, DL.dPart_eq, DL.partR_int, DL.on1_cons, DL.on2_cons, DL.lenD_lst, DL.lenD_tup, DL.lenD_scr, DL.lenD_str, DL.intD_int, DL.intD_bl, DL.strD_int, DL.int2_int, DL.listM_lst, DL.listF_lst, DL.listM_tup, DL.listF_tup, DL.dictM_dic, DL.isiD_ty, DL.oAppend_obj, DL.oInsert_obj, DL.oPop_obj, DL.oPopAt_obj, DL.isLst_eq, DL.isLstR_lst, DL.isStr_str, DL.oSplit_str, DL.oJoin_str, DL.itemsOf_lst, DL.itemsOf_tup, DL.itemsOf_str, DL.rng1_int, DL.enumOf_lst, DL.two_tup, DL.insIs_obj, DL.getFld_obj, DL.setFld_obj, DL.putDic_obj, DL.isB_str_non, DL.isB_str_bl, DL.isB_str_int, DL.isB_str_str, DL.isB_str_lst, DL.isB_str_tup, DL.isB_str_dic, DL.isB_int_non, DL.isB_int_bl, DL.isB_int_int, DL.isB_int_str, DL.isB_int_lst, DL.isB_int_tup, DL.isB_int_dic, DL.isB_bool_non, DL.isB_bool_bl, DL.isB_bool_int, DL.isB_bool_str, DL.isB_bool_lst, DL.isB_bool_tup, DL.isB_bool_dic, DL.isB_list_non, DL.isB_list_bl, DL.isB_list_int, DL.isB_list_str, DL.isB_list_lst, DL.isB_list_tup, DL.isB_list_dic, DL.isB_tuple_non, DL.isB_tuple_bl, DL.isB_tuple_int, DL.isB_tuple_str, DL.isB_tuple_lst, DL.isB_tuple_tup, DL.isB_tuple_dic, Bool.cond_true, Bool.cond_false, L2.CDiv, Int.reduceLT, Int.reduceLE, true_and, and_true, cond_true, cond_false, List.map_cons, List.map_nil, List.set_cons_zero, List.set_cons_succ, List.set_nil, DL.cpow_109, DL.pow_109, DL.frz_set_lst, DL.frz_set_dic, Bool.not_true, Bool.not_false, DL.itemsOf_obj, DL.enumOf_obj, DL.all_still, okD_non, okD_bl, okD_int, okD_str, okD_lst, okD_tup, okD_dic, res_set_lst, Mem.set_same, Mem.set_set, lk_seats, lk_patience, lk_reading, lk_alone, lk_asking, lk_waiting, lk_rows, no_is_inside, no_is_waiting, no_look, no_come, no_leave, no_ask, no_ease, no_settled, no_begun, no_readers, no_writer, no_asker, no_line, no_passed, no_journal, dp_reading, dp_reading0, dp_reading1, dp_alone, dp_alone0, dp_asking, dp_asking0, dp_waiting, dp_rows, few_flds, eNames, isN_optS, res_optS, optS_some, optS_none, Option.isNone_none, Option.isNone_some, ln_queue, ln_reading, ln_alone, ln_asked, dn_queue, dn_reading, dn_reading0, dn_reading1, dn_aloneO, dn_alone, dn_alone0, dn_asked, dn_asked0, few_eN, nod_eN, eqS_optS2, m_l_cell_at, Int.reduceLE, m_l_number_by, m_l_seats, m_l_patience, m_l_people, m_l_names, m_l_wish_by, m_l_crowd, m_is_name, m_is_wish, m_can_begin, canBegin_read, canBegin_write, canBegin_wish, m_is_number])
/-! ### Room.__init__(self, seats, patience): 0 self, 1 seats, 2 patience -/
def t_room_init_7 (A : Adr) : DSt :=
  (dFldS A.Room "rows" (dVar 0) (dLst dNil))
def t_room_init_6 (A : Adr) : DSt :=
  (dSeq (dFldS A.Room "waiting" (dVar 0) (dLst dNil))
  (t_room_init_7 A))
def t_room_init_5 (A : Adr) : DSt :=
  (dSeq (dFldS A.Room "asking" (dVar 0) (dC .non))
  (t_room_init_6 A))
def t_room_init_4 (A : Adr) : DSt :=
  (dSeq (dFldS A.Room "alone" (dVar 0) (dC .non))
  (t_room_init_5 A))
def t_room_init_3 (A : Adr) : DSt :=
  (dSeq (dFldS A.Room "reading" (dVar 0) (dLst dNil))
  (t_room_init_4 A))
def t_room_init_2 (A : Adr) : DSt :=
  (dSeq (dFldS A.Room "patience" (dVar 0) (dVar 2))
  (t_room_init_3 A))
def t_room_init_1 (A : Adr) : DSt :=
  (dSeq (dFldS A.Room "seats" (dVar 0) (dVar 1))
  (t_room_init_2 A))
def t_room_init (A : Adr) : DSt :=
  (dSeq (dIfS (dOr (dNot (dB (dFn m_is_number (dCons (dVar 1) (dCons (dC (.int 1)) dNil))))) (dNot (dB (dFn m_is_number (dCons (dVar 2) (dCons (dC (.int 0)) dNil)))))) (dRaise A.BadNumber) dNext)
  (t_room_init_1 A))
local macro_rules | `(tactic| walk_at "un") => `(tactic| simp only [t_room_init_7, t_room_init_6, t_room_init_5, t_room_init_4, t_room_init_3, t_room_init_2, t_room_init_1, t_room_init])
def m_room_init (A : Adr) : FDm := fun ds M Q X => ∃ (a : Addr) (s p : D), ds = [.obj a, s, p] ∧ M a = some (.ins A.Room []) ∧ okD s = true ∧ okD p = true ∧
  ((isNum s 1 && isNum p 0) = false → X A.BadNumber M) ∧ (∀ i j, s = .int i → p = .int j → (isNum s 1 && isNum p 0) = true → Q .non (M.set a (.ins A.Room (flds (newRm i j)))))
theorem len_room_init (A : Adr) : ∀ ds M Q X, m_room_init A ds M Q X → ds.length = 3 := fun ds M Q X ⟨_, _, _, h, _⟩ => by subst h; rfl
theorem ini1 (v1 : D) : dput ([] : List (Str × D)) "seats" v1 = ([("seats", v1)] : List (Str × D)) := by walk_at "lk"
theorem ini2 (v1 v2 : D) : dput ([("seats", v1)] : List (Str × D)) "patience" v2 = ([("seats", v1), ("patience", v2)] : List (Str × D)) := by walk_at "lk"
theorem ini3 (v1 v2 v3 : D) : dput ([("seats", v1), ("patience", v2)] : List (Str × D)) "reading" v3 = ([("seats", v1), ("patience", v2), ("reading", v3)] : List (Str × D)) := by walk_at "lk"
theorem ini4 (v1 v2 v3 v4 : D) : dput ([("seats", v1), ("patience", v2), ("reading", v3)] : List (Str × D)) "alone" v4 = ([("seats", v1), ("patience", v2), ("reading", v3), ("alone", v4)] : List (Str × D)) := by walk_at "lk"
theorem ini5 (v1 v2 v3 v4 v5 : D) : dput ([("seats", v1), ("patience", v2), ("reading", v3), ("alone", v4)] : List (Str × D)) "asking" v5 = ([("seats", v1), ("patience", v2), ("reading", v3), ("alone", v4), ("asking", v5)] : List (Str × D)) := by walk_at "lk"
theorem ini6 (v1 v2 v3 v4 v5 v6 : D) : dput ([("seats", v1), ("patience", v2), ("reading", v3), ("alone", v4), ("asking", v5)] : List (Str × D)) "waiting" v6 = ([("seats", v1), ("patience", v2), ("reading", v3), ("alone", v4), ("asking", v5), ("waiting", v6)] : List (Str × D)) := by walk_at "lk"
theorem ini7 (v1 v2 v3 v4 v5 v6 v7 : D) : dput ([("seats", v1), ("patience", v2), ("reading", v3), ("alone", v4), ("asking", v5), ("waiting", v6)] : List (Str × D)) "rows" v7 = ([("seats", v1), ("patience", v2), ("reading", v3), ("alone", v4), ("asking", v5), ("waiting", v6), ("rows", v7)] : List (Str × D)) := by walk_at "lk"
theorem isNum_int {d : D} {l : Int} (h : isNum d l = true) : ∃ i, d = .int i := by
  cases d <;> first | exact ⟨_, rfl⟩ | cases h
theorem read_room_init (A : Adr) : ∀ ds M Q X, m_room_init A ds M Q X → t_room_init A (bodyE Q X) (startD 3 ds) M := by
  rintro ds M Q X ⟨a, s, p, rfl, ha, hs, hp, hx, hq⟩
  unfold t_room_init
  walk_at "dl"
  rw [hs, hp]
  walk_at "dl"
  refine cond_of (fun h1 => ?_) fun h1 => cond_of (fun h2 => ?_) fun h2 => ?_
  · have h1 : isNum s 1 = false := by simpa using h1
    exact retX_of (hx (by rw [h1]; rfl))
  · have h2 : isNum p 0 = false := by simpa using h2
    exact retX_of (hx (by rw [h2, Bool.and_false]))
  · have h1 : isNum s 1 = true := by simpa using h1
    have h2 : isNum p 0 = true := by simpa using h2
    obtain ⟨i, rfl⟩ := isNum_int h1
    obtain ⟨j, rfl⟩ := isNum_int h2
    have h := hq i j rfl rfl (by rw [h1, h2]; rfl)
    unfold t_room_init_1 t_room_init_2 t_room_init_3 t_room_init_4 t_room_init_5 t_room_init_6 t_room_init_7
    walk_at "dl"
    rw [ha]
    walk_at "dl"
    rw [ini1, ini2, ini3, ini4, ini5, ini6, ini7]
    simp only [List.map_cons, List.map_nil, few, true_and]
    exact retD_of h

/-! ### judged(seats, patience, rows): 0 seats, 1 patience, 2 rows -/
def t_judged (A : Adr) : DSt :=
  (dRet (dFn (m_gone_through A) (dCons (dMk A.Room (m_room_init A) (dCons (dVar 0) (dCons (dVar 1) dNil))) (dCons (dVar 2) dNil))))
local macro_rules | `(tactic| walk_at "un") => `(tactic| simp only [t_judged])
def m_judged (A : Adr) : FDm := fun ds M Q X => ∃ (s p : D) (d : D) (rows : List D), ds = [s, p, d] ∧ Vw d rows M ∧ okD s = true ∧ okD p = true ∧ 3 * rows.length ≤ 800000 ∧ (∀ x ∈ rows, itemF M x) ∧
  ((isNum s 1 && isNum p 0) = false → ∀ M', Ext M M' → X A.BadNumber M') ∧
  (∀ i j, s = .int i → p = .int j → (isNum s 1 && isNum p 0) = true → ∀ M', Ext M M' → Q (goneV rows.length (gtGo 0 (newRm i j) [] rows)) M')
theorem len_judged (A : Adr) : ∀ ds M Q X, m_judged A ds M Q X → ds.length = 3 := fun ds M Q X ⟨_, _, _, _, h, _⟩ => by subst h; rfl
theorem read_judged (A : Adr) : ∀ ds M Q X, m_judged A ds M Q X → t_judged A (bodyE Q X) (startD 3 ds) M := by
  rintro ds M Q X ⟨s, p, d, rows, rfl, hv, hs, hp, hl, hok, hx, hq⟩
  unfold t_judged
  walk_at "dl"
  intro a ha
  refine ⟨a, s, p, rfl, Mem.set_same, hs, hp, fun e => retX_of (hx e _ (Ext.set ha)), fun i j ei ej e => ?_⟩
  have h := hq i j ei ej e
  subst ei ej
  refine ⟨rfl, ?_⟩
  rw [Mem.set_set]
  walk_at "dl"
  have i1 : 1 ≤ i := by
    have e : (isNum (.int i) 1 && isNum (.int j) 0) = true := e
    have e1 : (decide (1 ≤ i) && decide (i ≤ 1000000000)) = true := (Bool.and_eq_true_iff.mp e).1
    exact of_decide_eq_true (Bool.and_eq_true_iff.mp e1).1
  have I : Inv (newRm i j) := ⟨i1, by show (0 : Int) ≤ i; omega, List.nodup_nil, (by intro z hz; cases hz), (by intro z hz; cases hz), (by intro z hz; cases hz)⟩
  have hat : At A (M.set a (.ins A.Room (flds (newRm i j)))) a (newRm i j) := Mem.set_same
  refine ⟨a, newRm i j, d, rows, rfl, (Ext.set ha).vw hv, hat, I, by show 0 + 3 * rows.length ≤ 800000; omega, fun x hx => (Ext.set ha).item (hok x hx), ?_⟩
  cases hg : gtGo 0 (newRm i j) [] rows with
  | stop k =>
    rw [hg] at h
    intro r'
    rw [Mem.set_set]
    exact retD_of (h _ (Ext.set ha))
  | ok r' due =>
    rw [hg] at h
    show retD Q _ _
    rw [Mem.set_set]
    exact retD_of (h _ (Ext.set ha))

/-! ### room_of(seats, patience, rows): 0 seats, 1 patience, 2 rows, 3 room -/
def t_room_of_2 (A : Adr) : DSt :=
  (dRet (dVar 3))
def t_room_of_1 (A : Adr) : DSt :=
  (dSeq (dIfS (dB (dIsN true (dFn (m_gone_through A) (dCons (dVar 3) (dCons (dVar 2) dNil))))) (dRaise A.BadJournal) dNext)
  (t_room_of_2 A))
def t_room_of (A : Adr) : DSt :=
  (dSeq (dSet 3 (dMk A.Room (m_room_init A) (dCons (dVar 0) (dCons (dVar 1) dNil))))
  (t_room_of_1 A))
local macro_rules | `(tactic| walk_at "un") => `(tactic| simp only [t_room_of_2, t_room_of_1, t_room_of])
def m_room_of (A : Adr) : FDm := fun ds M Q X => ∃ (s p : D) (d : D) (rows : List D), ds = [s, p, d] ∧ Vw d rows M ∧ okD s = true ∧ okD p = true ∧ 3 * rows.length ≤ 800000 ∧ (∀ x ∈ rows, itemF M x) ∧
  ((isNum s 1 && isNum p 0) = false → ∀ M', Ext M M' → X A.BadNumber M') ∧
  (∀ i j, s = .int i → p = .int j → (isNum s 1 && isNum p 0) = true → match gtGo 0 (newRm i j) [] rows with
    | .ok r' [] => ∀ a, M a = none → Q (.obj a) (M.set a (.ins A.Room (flds r')))
    | _ => ∀ M', (∀ c, M c ≠ none → M' c = M c) → X A.BadJournal M')
theorem len_room_of (A : Adr) : ∀ ds M Q X, m_room_of A ds M Q X → ds.length = 3 := fun ds M Q X ⟨_, _, _, _, h, _⟩ => by subst h; rfl
theorem read_room_of (A : Adr) : ∀ ds M Q X, m_room_of A ds M Q X → t_room_of A (bodyE Q X) (startD 4 ds) M := by
  rintro ds M Q X ⟨s, p, d, rows, rfl, hv, hs, hp, hl, hok, hx, hq⟩
  unfold t_room_of
  walk_at "dl"
  intro a ha
  refine ⟨a, s, p, rfl, Mem.set_same, hs, hp, fun e => retX_of (hx e _ (Ext.set ha)), fun i j ei ej e => ?_⟩
  have h := hq i j ei ej e
  subst ei ej
  refine ⟨rfl, ?_⟩
  rw [Mem.set_set]
  unfold t_room_of_1
  walk_at "dl"
  have i1 : 1 ≤ i := by
    have e : (isNum (.int i) 1 && isNum (.int j) 0) = true := e
    have e1 : (decide (1 ≤ i) && decide (i ≤ 1000000000)) = true := (Bool.and_eq_true_iff.mp e).1
    exact of_decide_eq_true (Bool.and_eq_true_iff.mp e1).1
  have I : Inv (newRm i j) := ⟨i1, by show (0 : Int) ≤ i; omega, List.nodup_nil, (by intro z hz; cases hz), (by intro z hz; cases hz), (by intro z hz; cases hz)⟩
  have hat : At A (M.set a (.ins A.Room (flds (newRm i j)))) a (newRm i j) := Mem.set_same
  have hv2 : Vw d rows (M.set a (.ins A.Room (flds (newRm i j)))) := hv.sub (Mem.sub_set ha)
  have old : ∀ (o : MO) (c : Addr), M c ≠ none → (M.set a o) c = M c := fun o c hc => Mem.set_ne fun e => hc (by rw [e]; exact ha)
  refine ⟨a, newRm i j, d, rows, rfl, hv2, hat, I, by show 0 + 3 * rows.length ≤ 800000; omega, fun x hx => (Ext.set ha).item (hok x hx), ?_⟩
  cases hg : gtGo 0 (newRm i j) [] rows with
  | stop k =>
    rw [hg] at h
    intro r'
    show retX X A.BadJournal [some (.int i), some (.int j), some d, some (.obj a)] _
    rw [Mem.set_set]
    exact retX_of (h _ (old _))
  | ok r' due =>
    rw [hg] at h
    cases due with
    | nil =>
      show t_room_of_2 A _ _ _
      rw [Mem.set_set]
      unfold t_room_of_2
      walk_at "dl"
      exact retD_of (h a ha)
    | cons q rest =>
      show retX X A.BadJournal [some (.int i), some (.int j), some d, some (.obj a)] _
      rw [Mem.set_set]
      exact retX_of (h _ (old _))

/-! ### _law_refuses(_law_seats_here, _law_patience_here, _law_rows): 0 _law_seats_here, 1 _law_patience_here, 2 _law_rows, 3 _law_refused_here -/
def t_l_refuses_3 (K : PySem.W.Frag) (A : Adr) : DSt :=
  (dRet (dOp oEq (dVar 3) (dC (.int 2))))
def t_l_refuses_2 (K : PySem.W.Frag) (A : Adr) : DSt :=
  (dSeq (dTry K (.ref A.BadNumber) (dExpr (dFn (m_room_of A) (dCons (dVar 0) (dCons (dVar 1) (dCons (dVar 2) dNil))))) (dSet 3 (dOp oAdd (dVar 3) (dC (.int 1)))))
  (t_l_refuses_3 K A))
def t_l_refuses_1 (K : PySem.W.Frag) (A : Adr) : DSt :=
  (dSeq (dTry K (.ref A.BadNumber) (dExpr (dFn (m_judged A) (dCons (dVar 0) (dCons (dVar 1) (dCons (dVar 2) dNil))))) (dSet 3 (dOp oAdd (dVar 3) (dC (.int 1)))))
  (t_l_refuses_2 K A))
def t_l_refuses (K : PySem.W.Frag) (A : Adr) : DSt :=
  (dSeq (dSet 3 (dC (.int 0)))
  (t_l_refuses_1 K A))
local macro_rules | `(tactic| walk_at "un") => `(tactic| simp only [t_l_refuses_3, t_l_refuses_2, t_l_refuses_1, t_l_refuses])
-- NEEDS_TXT K A T.e_BadNumber_BadNumber
def m_l_refuses (A : Adr) : FDm := fun ds M Q _ => ∃ (s p : D) (rows : List D), ds = [s, p, .lst rows] ∧ okD s = true ∧ okD p = true ∧ (isNum s 1 && isNum p 0) = false ∧ 3 * rows.length ≤ 800000 ∧ (∀ x ∈ rows, itemF M x) ∧ ∀ M', Ext M M' → Q (.bl true) M'
theorem len_l_refuses (A : Adr) : ∀ ds M Q X, m_l_refuses A ds M Q X → ds.length = 3 := fun ds M Q X ⟨_, _, _, h, _⟩ => by subst h; rfl
theorem read_l_refuses (K : PySem.W.Frag) (A : Adr) (he : PySem.W.exmOne K (.ref A.BadNumber) (.ref A.BadNumber) = some true) : ∀ ds M Q X, m_l_refuses A ds M Q X → t_l_refuses K A (bodyE Q X) (startD 4 ds) M := by
  rintro ds M Q X ⟨s, p, rows, rfl, hs, hp, hb, hl, hit, h⟩
  unfold t_l_refuses
  walk_at "dl"
  unfold t_l_refuses_1
  walk_at "dl"
  have nonum : ∀ (R : Prop) (i j : Int), s = .int i → p = .int j → (isNum s 1 && isNum p 0) = true → R := fun R i j _ _ e => by
    rw [hb] at e
    cases e
  refine ⟨s, p, _, rows, rfl, .inl rfl, hs, hp, hl, hit, fun _ M1 x1 => ⟨he, ?_⟩, fun i j ei ej e => nonum _ i j ei ej e⟩
  walk_at "dl"
  unfold t_l_refuses_2
  walk_at "dl"
  refine ⟨s, p, _, rows, rfl, .inl rfl, hs, hp, hl, fun x hx => x1.item (hit x hx), fun _ M2 x2 => ⟨he, ?_⟩, fun i j ei ej e => nonum _ i j ei ej e⟩
  walk_at "dl"
  unfold t_l_refuses_3
  walk_at "dl"
  exact retD_of (h M2 (x1.trans x2))

/-! ### _law_name(_law_thing): 0 _law_thing, 1 _law_some, 2 _law_sign -/
def t_l_name_2  : DSt :=
  (dRet (dOp oEq (dLc (dItems (dVar 0)) 2 (dB (dOp oNotIn (dVar 2) (dVar 1))) (dVar 2)) (dLst dNil)))
def t_l_name_1  : DSt :=
  (dSeq (dSet 1 (dC (.str "abcdefghijklmnopqrstuvwxyz0123456789")))
  t_l_name_2)
def t_l_name  : DSt :=
  (dSeq (dIfS (dOr (dNot (dB (dCall (on2 isiD) (dCons (dVar 0) (dCons (dC (.ty "str")) dNil))))) (dOr (dB (dOp oLt (dCall (on1 lenD) (dCons (dVar 0) dNil)) (dC (.int 1)))) (dB (dOp oGt (dCall (on1 lenD) (dCons (dVar 0) dNil)) (dC (.int 12)))))) (dRet (dC (.bl false))) dNext)
  t_l_name_1)
local macro_rules | `(tactic| walk_at "un") => `(tactic| simp only [t_l_name_2, t_l_name_1, t_l_name])
def m_l_name : FDm := fun ds M Q _ => match ds with
  | [d] => okD d = true ∧ Q (.bl (isName d)) M
  | _ => False
theorem len_l_name : ∀ ds M Q X, m_l_name ds M Q X → ds.length = 1 := fun ds M Q X h => by
  unfold m_l_name at h
  split at h <;> first | rfl | exact h.elim
theorem read_l_name : ∀ ds M Q X, m_l_name ds M Q X → t_l_name (bodyE Q X) (startD 3 ds) M := by
  intro ds M Q X h
  unfold m_l_name at h
  split at h
  rotate_left
  · exact h.elim
  rename_i d
  obtain ⟨hd, h⟩ := h
  walk_at "un"
  cases d with
  | str z =>
    walk_at "dl"
    have hn : isName (.str z) = nameOk z := rfl
    rw [hn] at h
    unfold nameOk at h
    refine cond_of (fun h1 => ?_) fun h1 => ?_
    · have h1' : ¬ 1 ≤ z.length := by
        have : ((z.length : Int) < 1) := by simpa using h1
        omega
      rw [decide_eq_false h1', Bool.false_and, Bool.false_and] at h
      exact retD_of h
    have h1' : 1 ≤ z.length := by
      have : ¬ ((z.length : Int) < 1) := by simpa using h1
      omega
    refine cond_of (fun h2 => ?_) fun h2 => ?_
    · have h2' : ¬ z.length ≤ 12 := by
        have : (12 < (z.length : Int)) := by simpa using h2
        omega
      rw [decide_eq_false h2', Bool.and_false, Bool.false_and] at h
      exact retD_of h
    have h2' : z.length ≤ 12 := by
      have : ¬ (12 < (z.length : Int)) := by simpa using h2
      omega
    rw [decide_eq_true h1', decide_eq_true h2', Bool.true_and, Bool.true_and] at h
    refine lc_pure (fun x => match x with | .str ⟨⟨[c]⟩⟩ => !decide (c ∈ signsL) | _ => false) (fun x => x) (fun x hx M' hs Qb q => ?_) (fun x hx hp M' hs Qd q => ?_) ?_
    · unfold signsD at hx
      obtain ⟨c, hc, rfl⟩ := List.mem_map.mp hx
      walk_at "dl"
      exact q
    · walk_at "dl"
      exact q
    · simp only [signsD, List.map_id', List.filter_map]
      walk_at "dl"
      refine ⟨by rw [flatN_lst]; exact flat_map _ _ (fun _ => flatN_str _ _) _, by rw [flatN_lst]; rfl, ?_⟩
      rw [eqv_nil]
      have e : List.isEmpty (List.map (fun c => D.str ⟨#[c]⟩) (List.filter ((fun x => match x with | .str ⟨⟨[c]⟩⟩ => !decide (c ∈ signsL) | _ => false) ∘ fun c => D.str ⟨#[c]⟩) z.cps.toList)) = z.cps.toList.all fun c => decide (c ∈ signsL) := by
        generalize z.cps.toList = l
        induction l with
        | nil => rfl
        | cons c l ih =>
          rw [List.all_cons, ← ih]
          by_cases hc : c ∈ signsL
          · rw [decide_eq_true hc, Bool.true_and, List.filter_cons_of_neg (by simp [hc])]
          · rw [decide_eq_false hc, Bool.false_and, List.filter_cons_of_pos (by simp [hc])]
            rfl
      rw [e]
      exact retD_of h
  | non => walk_at "dl"; exact retD_of h
  | bl b => walk_at "dl"; exact retD_of h
  | int b => walk_at "dl"; exact retD_of h
  | lst b => walk_at "dl"; exact retD_of h
  | tup b => walk_at "dl"; exact retD_of h
  | dic b => walk_at "dl"; exact retD_of h
  | scr b => cases hd
  | obj b => cases hd
  | ty b => cases hd
-- SIMP m_l_name

local macro_rules | `(tactic| walk_at "dl") => `(tactic| try simp -implicitDefEqProofs only [DL.dNext, DL.dSeq, DL.dExpr, DL.dRet, DL.dIfS, DL.dSet, DL.dCont, DL.dRaise, DL.dFor, DL.dgName, DL.dgPair, DL.dTry, DL.dFn, DL.dMth, DL.dMk, DL.dFld, DL.dFldS, DL.dPut, DL.dVar, DL.slot, DL.dC, DL.dOp, DL.dUn, DL.oSub, DL.oMul, DL.oDiv, DL.oMod, DL.oPow, DL.oLt, DL.oLe, DL.oGt, DL.oGe, DL.oEq, DL.oNe, DL.oIn, DL.oNotIn, DL.dB, DL.dIsN, DL.dChain, DL.dAnd, DL.dOr, DL.dNot, DL.dAndV, DL.dOrV, DL.dNotV, DL.dIf, DL.dNil, DL.dCons, DL.few, DL.dLst, DL.dTup, DL.dLstM, DL.dFrz, DL.dPairs, DL.dDisp, DL.dDic0, DL.dSl, DL.dNoPart, DL.dCall, DL.dMet0L, DL.dMet, DL.dItems, DL.dRange1, DL.dEnum, DL.dLcM, DL.dwipe, DL.startD, DL.dNever, DL.el_some, DL.elL_lst, DL.elD_dic, DL.elI_ins, DL.res_non, DL.res_bl, DL.res_int, DL.res_str, DL.res_lst, DL.res_tupE, DL.res_dic, DL.res_scr, DL.res_ty, DL.oAdd_eq, DL.addR_int, DL.addR_str, DL.addR_lst, DL.addR_tup, DL.oAddM_eq, DL.addMR_lst, DL.oInt_eq, DL.intR_int, DL.oInt0_eq, DL.int0R_int, DL.oNeg_eq, DL.negR_int, DL.oEqN_eq, DL.eqR_some, DL.eqR_none, DL.eqS_non_non, DL.eqS_non_int, DL.eqS_non_bl, DL.eqS_non_str, DL.eqS_non_lst, DL.eqS_non_tup, DL.eqS_int_non, DL.eqS_int_int, DL.eqS_int_bl, DL.eqS_int_str, DL.eqS_int_lst, DL.eqS_int_tup, DL.eqS_bl_non, DL.eqS_bl_int, DL.eqS_bl_bl, DL.eqS_bl_str, DL.eqS_bl_lst, DL.eqS_bl_tup, DL.eqS_str_non, DL.eqS_str_int, DL.eqS_str_bl, DL.eqS_str_str, DL.eqS_str_lst, DL.eqS_str_tup, DL.eqS_lst_non, DL.eqS_lst_int, DL.eqS_lst_bl, DL.eqS_lst_str, DL.eqS_lst_lst, DL.eqS_lst_tup, DL.eqS_tup_non, DL.eqS_tup_int, DL.eqS_tup_bl, DL.eqS_tup_str, DL.eqS_tup_lst, DL.eqS_tup_tup, DL.eqS_obj_non, DL.eqS_non_obj, DL.eqS_obj_int, DL.eqS_int_obj, DL.eqS_obj_bl, DL.eqS_bl_obj, DL.eqS_obj_str, DL.eqS_str_obj, DL.eqS_obj_lst, DL.eqS_lst_obj, DL.eqS_obj_tup, DL.eqS_tup_obj, DL.eqS_obj_obj, DL.oInN_eq, DL.inR_lst, DL.inR_tup, DL.inR_str, DL.flatD_non, DL.flatD_bl, DL.flatD_int, DL.flatD_str, DL.asB_bl, DL.isN_non, DL.isN_bl, DL.isN_int, DL.isN_str, DL.isN_lst, DL.isN_tup, DL.isN_dic, DL.isN_scr, DL.isN_ty, DL.isN_obj, DL.frz_non, DL.frz_bl, DL.frz_int, DL.frz_str, DL.frz_lst, DL.frz_tup, DL.frz_dic, DL.frz_scr, DL.frz_ty, DL.oIx_eq, DL.ixR_lst, DL.ixR_tup, DL.ixR_scr, DL.ixR_str, DL.ixR_dic, DL.nth_0, DL.nth_1, DL.nth_2, DL.nth_3, DL.oSl_eq, DL.slR_lst, DL.slR_tup, DL.slR_str, DL.dPart_eq, DL.partR_int, DL.on1_cons, DL.on2_cons, DL.lenD_lst, DL.lenD_tup, DL.lenD_scr, DL.lenD_str, DL.intD_int, DL.intD_bl, DL.strD_int, DL.int2_int, DL.listM_lst, DL.listF_lst, DL.listM_tup, DL.listF_tup, DL.dictM_dic, DL.isiD_ty, DL.oAppend_obj, DL.oInsert_obj, DL.oPop_obj, DL.oPopAt_obj, DL.isLst_eq, DL.isLstR_lst, DL.isStr_str, DL.oSplit_str, DL.oJoin_str, DL.itemsOf_lst, DL.itemsOf_tup, DL.itemsOf_str, DL.rng1_int, DL.enumOf_lst, DL.two_tup, DL.insIs_obj, DL.getFld_obj, DL.setFld_obj, DL.putDic_obj, DL.isB_str_non, DL.isB_str_bl, DL.isB_str_int, DL.isB_str_str, DL.isB_str_lst, DL.isB_str_tup, DL.isB_str_dic, DL.isB_int_non, DL.isB_int_bl, DL.isB_int_int, DL.isB_int_str, DL.isB_int_lst, DL.isB_int_tup, DL.isB_int_dic, DL.isB_bool_non, DL.isB_bool_bl, DL.isB_bool_int, DL.isB_bool_str, DL.isB_bool_lst, DL.isB_bool_tup, DL.isB_bool_dic, DL.isB_list_non, DL.isB_list_bl, DL.isB_list_int, DL.isB_list_str, DL.isB_list_lst, DL.isB_list_tup, DL.isB_list_dic, DL.isB_tuple_non, DL.isB_tuple_bl, DL.isB_tuple_int, DL.isB_tuple_str, DL.isB_tuple_lst, DL.isB_tuple_tup, DL.isB_tuple_dic, Bool.cond_true, Bool.cond_false, L2.CDiv, Int.reduceLT, Int.reduceLE, true_and, and_true, cond_true, cond_false, List.map_cons, List.map_nil, List.set_cons_zero, List.set_cons_succ, List.set_nil, DL.cpow_109, DL.pow_109, DL.frz_set_lst, DL.frz_set_dic, Bool.not_true, Bool.not_false, DL.itemsOf_obj, DL.enumOf_obj, DL.all_still, okD_non, okD_bl, okD_int, okD_str, okD_lst, okD_tup, okD_dic, res_set_lst, Mem.set_same, Mem.set_set, lk_seats, lk_patience, lk_reading, lk_alone, lk_asking, lk_waiting, lk_rows, no_is_inside, no_is_waiting, no_look, no_come, no_leave, no_ask, no_ease, no_settled, no_begun, no_readers, no_writer, no_asker, no_line, no_passed, no_journal, dp_reading, dp_reading0, dp_reading1, dp_alone, dp_alone0, dp_asking, dp_asking0, dp_waiting, dp_rows, few_flds, eNames, isN_optS, res_optS, optS_some, optS_none, Option.isNone_none, Option.isNone_some, ln_queue, ln_reading, ln_alone, ln_asked, dn_queue, dn_reading, dn_reading0, dn_reading1, dn_aloneO, dn_alone, dn_alone0, dn_asked, dn_asked0, few_eN, nod_eN, eqS_optS2, m_l_cell_at, Int.reduceLE, m_l_number_by, m_l_seats, m_l_patience, m_l_people, m_l_names, m_l_wish_by, m_l_crowd, m_is_name, m_is_wish, m_can_begin, canBegin_read, canBegin_write, canBegin_wish, m_is_number, m_l_name])
/-! ### _law_formed(_law_row_here): 0 _law_row_here, 1 _law_word -/
def t_l_formed_3  : DSt :=
  (dRet (dOp oIn (dOp oIx (dVar 0) (dC (.int 0))) (dLst (dCons (dC (.str "left")) (dCons (dC (.str "asked")) (dCons (dC (.str "eased")) dNil))))))
def t_l_formed_2  : DSt :=
  (dSeq (dIfS (dB (dOp oEq (dCall (on1 lenD) (dCons (dVar 0) dNil)) (dC (.int 3)))) (dRet (dAndV (dOp oIn (dOp oIx (dVar 0) (dC (.int 0))) (dLst (dCons (dC (.str "came")) (dCons (dC (.str "begins")) dNil)))) (dOp oIn (dOp oIx (dVar 0) (dC (.int 2))) (dLst (dCons (dC (.str "read")) (dCons (dC (.str "write")) dNil)))))) dNext)
  t_l_formed_3)
def t_l_formed_1  : DSt :=
  (dSeq (dIfS (dOr (dB (dOp oNe (dLc (dItems (dVar 0)) 1 (dNot (dB (dCall (on2 isiD) (dCons (dVar 1) (dCons (dC (.ty "str")) dNil))))) (dVar 1)) (dLst dNil))) (dNot (dB (dFn m_l_name (dCons (dOp oIx (dVar 0) (dC (.int 1))) dNil))))) (dRet (dC (.bl false))) dNext)
  t_l_formed_2)
def t_l_formed  : DSt :=
  (dSeq (dIfS (dOr (dNot (dB (dCall (on2 isiD) (dCons (dVar 0) (dCons (dC (.ty "tuple")) dNil))))) (dOr (dB (dOp oLt (dCall (on1 lenD) (dCons (dVar 0) dNil)) (dC (.int 2)))) (dB (dOp oGt (dCall (on1 lenD) (dCons (dVar 0) dNil)) (dC (.int 3)))))) (dRet (dC (.bl false))) dNext)
  t_l_formed_1)
local macro_rules | `(tactic| walk_at "un") => `(tactic| simp only [t_l_formed_3, t_l_formed_2, t_l_formed_1, t_l_formed])
def m_l_formed : FDm := fun ds M Q _ => ∃ d : D, ds = [d] ∧ itemF M d ∧ Q (.bl (formedD d)) M
theorem len_l_formed : ∀ ds M Q X, m_l_formed ds M Q X → ds.length = 1 := fun ds M Q X ⟨_, h, _⟩ => by subst h; rfl
theorem formed_none {d : D} (h : parseD d = none) : formedD d = false := by unfold formedD; rw [h]
theorem formed2 (w x : Str) : formedD (.tup [.str w, .str x]) = (nameOk x && decide (w ∈ [Str.ofString "left", Str.ofString "asked", Str.ofString "eased"])) := by
  unfold formedD
  show (match parse2 w x with | none => false | some w => nameOk w.name && w.wok) = _
  unfold parse2
  by_cases e1 : w = Str.ofString "left"
  · rw [if_pos e1, decide_eq_true (by rw [e1]; simp)]
    rfl
  · rw [if_neg e1]
    by_cases e2 : w = Str.ofString "asked"
    · rw [if_pos e2, decide_eq_true (by rw [e2]; simp)]
      rfl
    · rw [if_neg e2]
      by_cases e3 : w = Str.ofString "eased"
      · rw [if_pos e3, decide_eq_true (by rw [e3]; simp)]
        rfl
      · rw [if_neg e3, decide_eq_false (by simp [e1, e2, e3]), Bool.and_false]
theorem wish_mem (y : Str) : isWish (.str y) = decide (y ∈ [Str.ofString "read", Str.ofString "write"]) := by
  show (decide (y = Str.ofString "read") || decide (y = Str.ofString "write")) = _
  rw [← Bool.decide_or]
  exact decide_eq_decide.mpr (by rw [List.mem_cons, List.mem_singleton])
theorem formed3 (w x y : Str) : formedD (.tup [.str w, .str x, .str y]) = (nameOk x && (decide (w ∈ [Str.ofString "came", Str.ofString "begins"]) && decide (y ∈ [Str.ofString "read", Str.ofString "write"]))) := by
  unfold formedD
  show (match parse3 w x y with | none => false | some w => nameOk w.name && w.wok) = _
  rw [← wish_mem]
  unfold parse3
  by_cases e1 : w = Str.ofString "came"
  · rw [if_pos e1, decide_eq_true (show w ∈ [Str.ofString "came", Str.ofString "begins"] by rw [e1]; exact List.mem_cons_self), Bool.true_and]
    rfl
  · rw [if_neg e1]
    by_cases e2 : w = Str.ofString "begins"
    · rw [if_pos e2, decide_eq_true (show w ∈ [Str.ofString "came", Str.ofString "begins"] by rw [e2]; exact List.mem_cons_of_mem _ List.mem_cons_self), Bool.true_and]
      rfl
    · rw [if_neg e2, decide_eq_false (show ¬ w ∈ [Str.ofString "came", Str.ofString "begins"] by simp only [List.mem_cons, List.not_mem_nil, or_false, not_or]; exact ⟨e1, e2⟩), Bool.false_and, Bool.and_false]
theorem flatL_filter {n : Nat} (p : D → Bool) : ∀ {l : List D}, flatL n l = true → flatL n (l.filter p) = true
  | [], _ => rfl
  | x :: l, h => by
    rw [flatL_cons, Bool.and_eq_true] at h
    cases e : p x with
    | true => rw [List.filter_cons_of_pos e, flatL_cons, h.1, flatL_filter p h.2]; rfl
    | false => rw [List.filter_cons_of_neg (by rw [e]; exact Bool.false_ne_true)]; exact flatL_filter p h.2
theorem read_l_formed : ∀ ds M Q X, m_l_formed ds M Q X → t_l_formed (bodyE Q X) (startD 2 ds) M := by
  rintro ds M Q X ⟨d, rfl, hi, h⟩
  unfold t_l_formed
  rcases hi with hf | ⟨a, kvs, rfl, hi⟩
  rotate_left
  · walk_at "dl"
    rw [res_objD hi]
    walk_at "dl"
    exact retD_of h
  cases d with
  | scr b => simp [flatN] at hf
  | obj b => simp [flatN] at hf
  | ty b => simp [flatN] at hf
  | dic b => simp [flatN] at hf
  | tup l =>
    have hall : l.all okD = true := flat_tup_all hf
    have no : parseD (.tup l) = none → retD Q (.bl false) M := fun e => by
      rw [formed_none e] at h
      exact retD_of h
    have bad : ¬ (2 ≤ l.length ∧ l.length ≤ 3) → parseD (.tup l) = none := fun hn => by
      cases e : parseD (.tup l) with
      | none => rfl
      | some w => exact absurd (parse_len e) hn
    walk_at "dl"
    refine cond_dec (fun e => no (bad (by omega))) fun e1 => ?_
    refine cond_dec (fun e => no (bad (by omega))) fun e2 => ?_
    unfold t_l_formed_1
    walk_at "dl"
    refine lc_pure (fun x => !isStrD x) (fun x => x) (fun x hx M' hs Qb q => ?_) (fun x hx hp M' hs Qd q => ?_) ?_
    · have hk := List.all_eq_true.mp hall x hx
      cases x with
      | scr b => cases hk
      | obj b => cases hk
      | ty b => cases hk
      | _ => walk_at "dl"; exact q
    · walk_at "dl"
      exact q
    · rw [List.map_id']
      walk_at "dl"
      have hf9 := flat_up hf
      rw [flatN_tup] at hf9
      refine ⟨by rw [flatN_lst]; exact flatL_filter _ hf9, rfl, ?_⟩
      rw [eqv_nil]
      by_cases hs : ∀ x ∈ l, isStrD x = true
      · have : l.filter (fun x => !isStrD x) = [] := by
          rw [List.filter_eq_nil_iff]
          intro x hx
          rw [hs x hx]
          decide
        rw [this]
        show cond false _ _
        rw [cond_false]
        obtain ⟨ss, rfl⟩ := all_strs hs
        rw [List.length_map] at e1 e2
        have e1 : 2 ≤ ss.length := by omega
        have e2 : ss.length ≤ 3 := by omega
        match ss, e1, e2 with
        | [w, x], _, _ =>
          have h : Q (.bl (formedD (.tup [.str w, .str x]))) M := h
          rw [formed2] at h
          walk_at "dl"
          rw [show isName (.str x) = nameOk x from rfl]
          cases hn : nameOk x with
          | false =>
            rw [hn] at h
            exact retD_of h
          | true =>
            rw [hn] at h
            walk_at "dl"
            unfold t_l_formed_2
            walk_at "dl"
            rw [show decide ((([D.str w, D.str x] : List D).length : Int) = 3) = false from rfl, cond_false]
            unfold t_l_formed_3
            walk_at "dl"
            rw [show [D.str (Str.ofString "left"), D.str (Str.ofString "asked"), D.str (Str.ofString "eased")] = [Str.ofString "left", Str.ofString "asked", Str.ofString "eased"].map D.str from rfl, inD_names]
            exact ⟨flatD_names _, retD_of h⟩
        | [w, x, y], _, _ =>
          have h : Q (.bl (formedD (.tup [.str w, .str x, .str y]))) M := h
          rw [formed3] at h
          walk_at "dl"
          rw [show isName (.str x) = nameOk x from rfl]
          cases hn : nameOk x with
          | false =>
            rw [hn] at h
            exact retD_of h
          | true =>
            rw [hn] at h
            walk_at "dl"
            unfold t_l_formed_2
            walk_at "dl"
            rw [show decide ((([D.str w, D.str x, D.str y] : List D).length : Int) = 3) = true from rfl, cond_true]
            rw [show [D.str (Str.ofString "came"), D.str (Str.ofString "begins")] = [Str.ofString "came", Str.ofString "begins"].map D.str from rfl, inD_names]
            refine ⟨flatD_names _, ?_⟩
            cases hc : decide (w ∈ [Str.ofString "came", Str.ofString "begins"]) with
            | false =>
              rw [hc] at h
              exact retD_of h
            | true =>
              rw [hc] at h
              walk_at "dl"
              rw [show [D.str (Str.ofString "read"), D.str (Str.ofString "write")] = [Str.ofString "read", Str.ofString "write"].map D.str from rfl, inD_names]
              exact ⟨flatD_names _, retD_of h⟩
      · have hx : ∃ x ∈ l, isStrD x = false := by
          refine Classical.byContradiction fun hh => hs fun x hx => ?_
          cases e : isStrD x with
          | true => rfl
          | false => exact absurd ⟨x, hx, e⟩ hh
        obtain ⟨x, hx, e⟩ := hx
        have : (l.filter (fun x => !isStrD x)).isEmpty = false := by
          rw [List.isEmpty_eq_false_iff]
          intro hh
          have := List.filter_eq_nil_iff.mp hh x hx
          rw [e] at this
          exact this rfl
        rw [this]
        show cond true _ _
        rw [cond_true]
        exact no (parse_nostr hx e)
  | _ =>
    walk_at "dl"
    exact retD_of h

/-! ### _law_gone(_law_rows, _law_seats_here, _law_patience_here): 0 _law_rows, 1 _law_seats_here, 2 _law_patience_here, 3 _law_now, 4 _law_k, 5 _law_place -/
def t_l_gone_L1_1  : DSt :=
  (dIfS (dB (dIsN true (dVar 5))) (dSeq (dIfS (dB (dOp (oEqX true) (dOp oIx (dVar 0) (dVar 4)) (dOp oAdd (dTup (dCons (dC (.str "begins")) dNil)) (dFn m_l_pair (dCons (dVar 3) (dCons (dVar 5) dNil)))))) (dRet (dVar 4)) dNext)
  (dSet 3 (dFn m_l_began (dCons (dVar 3) (dCons (dVar 5) dNil))))) (dSeq (dIfS (dOr (dNot (dB (dFn m_l_formed (dCons (dOp oIx (dVar 0) (dVar 4)) dNil)))) (dOr (dB (dOp (oEqX false) (dOp oIx (dOp oIx (dVar 0) (dVar 4)) (dC (.int 0))) (dC (.str "begins")))) (dB (dFn m_l_refused (dCons (dVar 3) (dCons (dOp oIx (dVar 0) (dVar 4)) dNil)))))) (dRet (dVar 4)) dNext)
  (dSet 3 (dFn m_l_deed_done (dCons (dVar 3) (dCons (dOp oIx (dVar 0) (dVar 4)) dNil))))))
def t_l_gone_L1  : DSt :=
  (dSeq (dSet 5 (dFn m_l_next (dCons (dVar 3) (dCons (dVar 1) (dCons (dVar 2) dNil)))))
  t_l_gone_L1_1)
def t_l_gone_3  : DSt :=
  (dRet (dC .non))
def t_l_gone_2  : DSt :=
  (dSeq (dIfS (dB (dIsN true (dFn m_l_next (dCons (dVar 3) (dCons (dVar 1) (dCons (dVar 2) dNil)))))) (dRet (dCall (on1 lenD) (dCons (dVar 0) dNil))) dNext)
  t_l_gone_3)
def t_l_gone_1  : DSt :=
  (dSeq (dFor (dRange1 (dCons (dCall (on1 lenD) (dCons (dVar 0) dNil)) dNil)) (dgName 4) t_l_gone_L1)
  t_l_gone_2)
def t_l_gone  : DSt :=
  (dSeq (dSet 3 (dFn m_l_fresh dNil))
  t_l_gone_1)
local macro_rules | `(tactic| walk_at "un") => `(tactic| simp only [t_l_gone_3, t_l_gone_2, t_l_gone_1, t_l_gone])
def m_l_gone : FDm := fun ds M Q _ => ∃ (s p : Int) (rows : List D), ds = [.lst rows, .int s, .int p] ∧ 1 ≤ s ∧ rows.length ≤ 100000 ∧ (∀ x ∈ rows, itemF M x) ∧ Q (goneV rows.length (gtGo 0 (newRm s p) [] rows)) M
theorem len_l_gone : ∀ ds M Q X, m_l_gone ds M Q X → ds.length = 3 := fun ds M Q X ⟨_, _, _, h, _⟩ => by subst h; rfl
theorem read_l_gone : ∀ ds M Q X, m_l_gone ds M Q X → t_l_gone (bodyE Q X) (startD 6 ds) M := by
  rintro ds M Q X ⟨s, p, rows, rfl, hs, hl, hit, h⟩
  unfold t_l_gone
  walk_at "dl"
  refine ⟨rfl, fun s' p' l' => ?_⟩
  unfold t_l_gone_1
  walk_at "dl"
  have I0 : Inv (newRm s p) := ⟨hs, by show (0 : Int) ≤ s; omega, List.nodup_nil, (by intro z hz; cases hz), (by intro z hz; cases hz), (by intro z hz; cases hz)⟩
  refine ⟨by omega, by omega, ?_⟩
  refine ⟨fun k δ M' => M' = M ∧ ∃ (r m : Rm) (due : Due), gtGo 0 (newRm s p) [] (rows.take k) = .ok r due ∧ Rel r due m ∧ Inv m ∧ wgt m ≤ 3 * k ∧ m.seats = s ∧ m.patience = p ∧
      ∃ o4 o5 : Option D, δ = [some (.lst rows), some (.int s), some (.int p), some (.dic (eN m)), o4, o5],
    ⟨rfl, newRm s p, newRm s p, [], rfl, ⟨0, Nat.le_refl _, rfl⟩, I0, Nat.le_refl _, rfl, rfl, _, _, rfl⟩, ?_, ?_⟩
  · rintro k x δ M' hx ⟨rfl, r, m, due, hg, hrel, I, hw, rfl, rfl, o4, o5, rfl⟩
    refine ⟨trivial, ?_⟩
    obtain ⟨hk, rfl⟩ := rangeD_get hx
    have hkl : k < rows.length := by simpa using hk
    obtain ⟨d, hd⟩ : ∃ d, rows[k]? = some d := ⟨_, List.getElem?_eq_getElem hkl⟩
    have hm := List.mem_of_getElem? hd
    have hi := hit d hm
    have hnth : nth rows (k : Int) = some d := by rw [nth_nat]; exact hd
    have stop : stepO r due d = none → retD Q (.int (k : Int)) M' := fun e => by
      rw [gtGo_stop hd hg e] at h
      exact retD_of h
    unfold t_l_gone_L1
    walk_at "dl"
    refine ⟨m, rfl, I, by omega, ?_⟩
    unfold t_l_gone_L1_1
    cases due with
    | cons q rest =>
      obtain ⟨r1, hb, hrel2⟩ := hrel.next
      have kn := begun_numbers hb
      obtain ⟨b1, b2, b3⟩ := begun_spec hb
      have K1 := (begun_inv I hb).1
      have K2 : Inv (logB r1 q) := ⟨K1.seats, K1.rds, K1.nd, K1.ok, K1.alo, K1.ask⟩
      rw [nextD_some hb]
      walk_at "dl"
      rw [hnth, el_some]
      walk_at "dl"
      refine ⟨m, r1, q, rfl, hb, ?_⟩
      unfold eP
      walk_at "dl"
      refine ⟨by rw [sizeLine_eq]; show 1 + 2 ≤ _; omega, ?_⟩
      refine ne_begins hi (fun e => ?_) fun e => ?_
      · walk_at "dl"
        refine ⟨m, r1, q, rfl, hb, by omega, ?_⟩
        walk_at "dl"
        refine ⟨r, logB r1 q, rest, gtGo_next hd hg (by rw [e]; exact step_due r q rest), hrel2, K2, by omega, kn.1, kn.2, _, _, rfl⟩
      · walk_at "dl"
        exact stop (step_no e)
    | nil =>
      obtain ⟨rfl, hb⟩ := hrel.rest
      rw [nextD_none hb]
      walk_at "dl"
      rw [hnth, el_some]
      refine ⟨d, rfl, hi, ?_⟩
      cases hfd : formedD d with
      | false =>
        walk_at "dl"
        exact stop (step_unformed hfd)
      | true =>
        walk_at "dl"
        rcases formed_deed hfd with ⟨x, y, hp⟩ | ⟨dd, hn, hp⟩
        · have ed := parse_words hp
          rw [ed]
          walk_at "dl"
          rw [show nth ((PR.begins x y).words.map D.str) 0 = some (.str (Str.ofString "begins")) from rfl, el_some]
          refine .inl ?_
          walk_at "dl"
          rw [show decide True = true from rfl, cond_true]
          exact stop (step_begins hp)
        · obtain ⟨dl, hdl, hdd⟩ := isDeed_row dd
          have ed : d = eR (rowOf dd) := by
            rw [parse_words hp]
            obtain ⟨kk, z, b⟩ := dd
            cases kk <;> rfl
          have nb : ∃ w : Str, nth dl 0 = some (.str w) ∧ ¬ w = Str.ofString "begins" := by
            refine ⟨_, hdd.1, ?_⟩
            cases dd.kind <;> decide +kernel
          obtain ⟨w, hw0, hwb⟩ := nb
          rw [ed, hdl]
          walk_at "dl"
          rw [hw0, el_some]
          refine .inl ?_
          walk_at "dl"
          rw [decide_eq_false hwb, cond_false]
          refine ⟨m, dd, dl, rfl, hdd, ?_⟩
          cases e : refB m dd with
          | true =>
            walk_at "dl"
            exact stop (step_ref I hn hp e)
          | false =>
            have I1 := pre_inv I hn e
            have I2 : Inv (logR (preR m dd) (rowOf dd)) := ⟨I1.seats, I1.rds, I1.nd, I1.ok, I1.alo, I1.ask⟩
            have pw := pre_wgt m dd e I
            obtain ⟨q1, q2, q3⟩ := pre_numbers m dd
            have pw2 : wgt (logR (preR m dd) (rowOf dd)) ≤ wgt m + 3 := by
              unfold wgt logR
              unfold wgt at pw
              simp only [List.length_append, List.length_singleton]
              omega
            obtain ⟨due2, r2, hs2, hrel2⟩ := step_deed I hn hp e
            walk_at "dl"
            refine ⟨m, dd, dl, rfl, hdd, by unfold wgt at hw; omega, ?_⟩
            walk_at "dl"
            refine ⟨r2, logR (preR m dd) (rowOf dd), due2, gtGo_next hd hg hs2, hrel2, I2, by omega, q1, q2, _, _, rfl⟩
  · rintro δ M' ⟨rfl, r, m, due, hg, hrel, I, hw, rfl, rfl, o4, o5, rfl⟩
    refine ⟨trivial, ?_⟩
    rw [rangeD_len] at hg hw
    rw [List.take_of_length_le (by simp)] at hg
    rw [hg] at h
    unfold t_l_gone_2
    walk_at "dl"
    refine ⟨m, rfl, I, by simp at hw; omega, ?_⟩
    cases due with
    | nil =>
      obtain ⟨rfl, hb⟩ := hrel.rest
      rw [nextD_none hb]
      walk_at "dl"
      unfold t_l_gone_3
      walk_at "dl"
      exact retD_of h
    | cons q rest =>
      obtain ⟨r1, hb, _⟩ := hrel.next
      rw [nextD_some hb]
      walk_at "dl"
      exact retD_of h

/-! ### _law_whole(_law_found): 0 _law_found -/
def t_l_whole  : DSt :=
  (dRet (dAndV (dCall (on2 isiD) (dCons (dVar 0) (dCons (dC (.ty "int")) dNil))) (dNotV (dCall (on2 isiD) (dCons (dVar 0) (dCons (dC (.ty "bool")) dNil))))))
local macro_rules | `(tactic| walk_at "un") => `(tactic| simp only [t_l_whole])
def isWhole : D → Bool
  | .int _ => true
  | _ => false
def m_l_whole : FDm := fun ds M Q _ => match ds with
  | [d] => okD d = true ∧ Q (.bl (isWhole d)) M
  | _ => False
theorem len_l_whole : ∀ ds M Q X, m_l_whole ds M Q X → ds.length = 1 := fun ds M Q X h => by
  unfold m_l_whole at h
  split at h <;> first | rfl | exact h.elim
theorem read_l_whole : ∀ ds M Q X, m_l_whole ds M Q X → t_l_whole (bodyE Q X) (startD 1 ds) M := by
  intro ds M Q X h
  unfold m_l_whole at h
  split at h
  rotate_left
  · exact h.elim
  rename_i d
  obtain ⟨hd, h⟩ := h
  walk_at "un"
  cases d with
  | scr b => cases hd
  | obj b => cases hd
  | ty b => cases hd
  | _ =>
    walk_at "dl"
    exact retD_of h
-- SIMP m_l_whole isWhole

local macro_rules | `(tactic| walk_at "dl") => `(tactic| try simp -implicitDefEqProofs only [DL.dNext, DL.dSeq, DL.dExpr, DL.dRet, DL.dIfS, DL.dSet, DL.dCont, DL.dRaise, DL.dFor, DL.dgName, DL.dgPair, DL.dTry, DL.dFn, DL.dMth, DL.dMk, DL.dFld, DL.dFldS, DL.dPut, DL.dVar, DL.slot, DL.dC, DL.dOp, DL.dUn, DL.oSub, DL.oMul, DL.oDiv, DL.oMod, DL.oPow, DL.oLt, DL.oLe, DL.oGt, DL.oGe, DL.oEq, DL.oNe, DL.oIn, DL.oNotIn, DL.dB, DL.dIsN, DL.dChain, DL.dAnd, DL.dOr, DL.dNot, DL.dAndV, DL.dOrV, DL.dNotV, DL.dIf, DL.dNil, DL.dCons, DL.few, DL.dLst, DL.dTup, DL.dLstM, DL.dFrz, DL.dPairs, DL.dDisp, DL.dDic0, DL.dSl, DL.dNoPart, DL.dCall, DL.dMet0L, DL.dMet, DL.dItems, DL.dRange1, DL.dEnum, DL.dLcM, DL.dwipe, DL.startD, DL.dNever, DL.el_some, DL.elL_lst, DL.elD_dic, DL.elI_ins, DL.res_non, DL.res_bl, DL.res_int, DL.res_str, DL.res_lst, DL.res_tupE, DL.res_dic, DL.res_scr, DL.res_ty, DL.oAdd_eq, DL.addR_int, DL.addR_str, DL.addR_lst, DL.addR_tup, DL.oAddM_eq, DL.addMR_lst, DL.oInt_eq, DL.intR_int, DL.oInt0_eq, DL.int0R_int, DL.oNeg_eq, DL.negR_int, DL.oEqN_eq, DL.eqR_some, DL.eqR_none, DL.eqS_non_non, DL.eqS_non_int, DL.eqS_non_bl, DL.eqS_non_str, DL.eqS_non_lst, DL.eqS_non_tup, DL.eqS_int_non, DL.eqS_int_int, DL.eqS_int_bl, DL.eqS_int_str, DL.eqS_int_lst, DL.eqS_int_tup, DL.eqS_bl_non, DL.eqS_bl_int, DL.eqS_bl_bl, DL.eqS_bl_str, DL.eqS_bl_lst, DL.eqS_bl_tup, DL.eqS_str_non, DL.eqS_str_int, DL.eqS_str_bl, DL.eqS_str_str, DL.eqS_str_lst, DL.eqS_str_tup, DL.eqS_lst_non, DL.eqS_lst_int, DL.eqS_lst_bl, DL.eqS_lst_str, DL.eqS_lst_lst, DL.eqS_lst_tup, DL.eqS_tup_non, DL.eqS_tup_int, DL.eqS_tup_bl, DL.eqS_tup_str, DL.eqS_tup_lst, DL.eqS_tup_tup, DL.eqS_obj_non, DL.eqS_non_obj, DL.eqS_obj_int, DL.eqS_int_obj, DL.eqS_obj_bl, DL.eqS_bl_obj, DL.eqS_obj_str, DL.eqS_str_obj, DL.eqS_obj_lst, DL.eqS_lst_obj, DL.eqS_obj_tup, DL.eqS_tup_obj, DL.eqS_obj_obj, DL.oInN_eq, DL.inR_lst, DL.inR_tup, DL.inR_str, DL.flatD_non, DL.flatD_bl, DL.flatD_int, DL.flatD_str, DL.asB_bl, DL.isN_non, DL.isN_bl, DL.isN_int, DL.isN_str, DL.isN_lst, DL.isN_tup, DL.isN_dic, DL.isN_scr, DL.isN_ty, DL.isN_obj, DL.frz_non, DL.frz_bl, DL.frz_int, DL.frz_str, DL.frz_lst, DL.frz_tup, DL.frz_dic, DL.frz_scr, DL.frz_ty, DL.oIx_eq, DL.ixR_lst, DL.ixR_tup, DL.ixR_scr, DL.ixR_str, DL.ixR_dic, DL.nth_0, DL.nth_1, DL.nth_2, DL.nth_3, DL.oSl_eq, DL.slR_lst, DL.slR_tup, DL.slR_str, DL.dPart_eq, DL.partR_int, DL.on1_cons, DL.on2_cons, DL.lenD_lst, DL.lenD_tup, DL.lenD_scr, DL.lenD_str, DL.intD_int, DL.intD_bl, DL.strD_int, DL.int2_int, DL.listM_lst, DL.listF_lst, DL.listM_tup, DL.listF_tup, DL.dictM_dic, DL.isiD_ty, DL.oAppend_obj, DL.oInsert_obj, DL.oPop_obj, DL.oPopAt_obj, DL.isLst_eq, DL.isLstR_lst, DL.isStr_str, DL.oSplit_str, DL.oJoin_str, DL.itemsOf_lst, DL.itemsOf_tup, DL.itemsOf_str, DL.rng1_int, DL.enumOf_lst, DL.two_tup, DL.insIs_obj, DL.getFld_obj, DL.setFld_obj, DL.putDic_obj, DL.isB_str_non, DL.isB_str_bl, DL.isB_str_int, DL.isB_str_str, DL.isB_str_lst, DL.isB_str_tup, DL.isB_str_dic, DL.isB_int_non, DL.isB_int_bl, DL.isB_int_int, DL.isB_int_str, DL.isB_int_lst, DL.isB_int_tup, DL.isB_int_dic, DL.isB_bool_non, DL.isB_bool_bl, DL.isB_bool_int, DL.isB_bool_str, DL.isB_bool_lst, DL.isB_bool_tup, DL.isB_bool_dic, DL.isB_list_non, DL.isB_list_bl, DL.isB_list_int, DL.isB_list_str, DL.isB_list_lst, DL.isB_list_tup, DL.isB_list_dic, DL.isB_tuple_non, DL.isB_tuple_bl, DL.isB_tuple_int, DL.isB_tuple_str, DL.isB_tuple_lst, DL.isB_tuple_tup, DL.isB_tuple_dic, Bool.cond_true, Bool.cond_false, L2.CDiv, Int.reduceLT, Int.reduceLE, true_and, and_true, cond_true, cond_false, List.map_cons, List.map_nil, List.set_cons_zero, List.set_cons_succ, List.set_nil, DL.cpow_109, DL.pow_109, DL.frz_set_lst, DL.frz_set_dic, Bool.not_true, Bool.not_false, DL.itemsOf_obj, DL.enumOf_obj, DL.all_still, okD_non, okD_bl, okD_int, okD_str, okD_lst, okD_tup, okD_dic, res_set_lst, Mem.set_same, Mem.set_set, lk_seats, lk_patience, lk_reading, lk_alone, lk_asking, lk_waiting, lk_rows, no_is_inside, no_is_waiting, no_look, no_come, no_leave, no_ask, no_ease, no_settled, no_begun, no_readers, no_writer, no_asker, no_line, no_passed, no_journal, dp_reading, dp_reading0, dp_reading1, dp_alone, dp_alone0, dp_asking, dp_asking0, dp_waiting, dp_rows, few_flds, eNames, isN_optS, res_optS, optS_some, optS_none, Option.isNone_none, Option.isNone_some, ln_queue, ln_reading, ln_alone, ln_asked, dn_queue, dn_reading, dn_reading0, dn_reading1, dn_aloneO, dn_alone, dn_alone0, dn_asked, dn_asked0, few_eN, nod_eN, eqS_optS2, m_l_cell_at, Int.reduceLE, m_l_number_by, m_l_seats, m_l_patience, m_l_people, m_l_names, m_l_wish_by, m_l_crowd, m_is_name, m_is_wish, m_can_begin, canBegin_read, canBegin_write, canBegin_wish, m_is_number, m_l_name, m_l_whole, isWhole])
/-! ### _law_told(_law_found, _law_due): 0 _law_found, 1 _law_due -/
def t_l_told_1  : DSt :=
  (dRet (dAndV (dFn m_l_whole (dCons (dVar 0) dNil)) (dOp oEq (dVar 0) (dVar 1))))
def t_l_told  : DSt :=
  (dSeq (dIfS (dB (dIsN false (dVar 1))) (dRet (dIsN false (dVar 0))) dNext)
  t_l_told_1)
local macro_rules | `(tactic| walk_at "un") => `(tactic| simp only [t_l_told_1, t_l_told])
def m_l_told : FDm := fun ds M Q _ => ∃ d : D, ds = [d, d] ∧ (d = .non ∨ ∃ i, d = .int i) ∧ Q (.bl true) M
theorem len_l_told : ∀ ds M Q X, m_l_told ds M Q X → ds.length = 2 := fun ds M Q X ⟨_, h, _⟩ => by subst h; rfl
theorem read_l_told : ∀ ds M Q X, m_l_told ds M Q X → t_l_told (bodyE Q X) (startD 2 ds) M := by
  rintro ds M Q X ⟨d, rfl, hd, h⟩
  unfold t_l_told t_l_told_1
  rcases hd with rfl | ⟨i, rfl⟩
  · walk_at "dl"
    exact retD_of h
  · walk_at "dl"
    rw [show decide True = true from rfl]
    exact retD_of h

/-! ### _law_refused_rows(_law_seats_here, _law_patience_here, _law_rows): 0 _law_seats_here, 1 _law_patience_here, 2 _law_rows, 3 _law_handed, 4 e -/
def t_l_refused_rows_2 (K : PySem.W.Frag) (A : Adr) : DSt :=
  (dRet (dC (.bl false)))
def t_l_refused_rows_1 (K : PySem.W.Frag) (A : Adr) : DSt :=
  (dSeq (dTryAs K (.ref A.RoomError) 4 (dExpr (dFn (m_room_of A) (dCons (dVar 0) (dCons (dVar 1) (dCons (dVar 3) dNil))))) (fun ea ec => (dSeq (dIfS (dB (dCall (isED K ea ec) (dCons (dVar 4) (dCons (dTup (dCons (dC (.obj A.Asked)) (dCons (dC (.obj A.BadName)) (dCons (dC (.obj A.BadNumber)) (dCons (dC (.obj A.BadText)) (dCons (dC (.obj A.BadWish)) (dCons (dC (.obj A.Inside)) (dCons (dC (.obj A.Known)) (dCons (dC (.obj A.Outside)) dNil))))))))) dNil)))) (dRet (dC (.bl false))) dNext)
  (dSeq (dIfS (dOr (dB (dCall (isED K ea ec) (dCons (dVar 4) (dCons (dTup (dCons (dC (.obj A.Reads)) (dCons (dC (.obj A.Stranger)) (dCons (dC (.obj A.Writes)) dNil)))) dNil)))) (dNot (dB (dCall (isED K ea ec) (dCons (dVar 4) (dCons (dC (.obj A.BadJournal)) dNil)))))) (dRet (dC (.bl false))) dNext)
  (dRet (dAndV (dOp (oEqX false) (dVar 3) (dVar 2)) (dCall (isED K ea ec) (dCons (dVar 4) (dCons (dC (.ty "ValueError")) dNil)))))))))
  (t_l_refused_rows_2 K A))
def t_l_refused_rows (K : PySem.W.Frag) (A : Adr) : DSt :=
  (dSeq (dSet 3 (dCall (on1 listF) (dCons (dVar 2) dNil)))
  (t_l_refused_rows_1 K A))
local macro_rules | `(tactic| walk_at "un") => `(tactic| simp only [t_l_refused_rows_2, t_l_refused_rows_1, t_l_refused_rows])
-- SIMP DL.dTryAs
-- NEEDS_TXT K A T.e_BadJournal_RoomError ⟨T.ec_BadJournal, T.i_BadJournal_Asked, T.i_BadJournal_BadName, T.i_BadJournal_BadNumber, T.i_BadJournal_BadText, T.i_BadJournal_BadWish, T.i_BadJournal_Inside, T.i_BadJournal_Known, T.i_BadJournal_Outside, T.i_BadJournal_Reads, T.i_BadJournal_Stranger, T.i_BadJournal_Writes, T.i_BadJournal_BadJournal, T.i_BadJournal_ValueError⟩
structure BJ (K : PySem.W.Frag) (A : Adr) : Prop where
  c : ExcC K A.BadJournal
  k1 : PySem.W.kitOne K (.ref A.BadJournal) (.ref A.Asked) = some false
  k2 : PySem.W.kitOne K (.ref A.BadJournal) (.ref A.BadName) = some false
  k3 : PySem.W.kitOne K (.ref A.BadJournal) (.ref A.BadNumber) = some false
  k4 : PySem.W.kitOne K (.ref A.BadJournal) (.ref A.BadText) = some false
  k5 : PySem.W.kitOne K (.ref A.BadJournal) (.ref A.BadWish) = some false
  k6 : PySem.W.kitOne K (.ref A.BadJournal) (.ref A.Inside) = some false
  k7 : PySem.W.kitOne K (.ref A.BadJournal) (.ref A.Known) = some false
  k8 : PySem.W.kitOne K (.ref A.BadJournal) (.ref A.Outside) = some false
  k9 : PySem.W.kitOne K (.ref A.BadJournal) (.ref A.Reads) = some false
  k10 : PySem.W.kitOne K (.ref A.BadJournal) (.ref A.Stranger) = some false
  k11 : PySem.W.kitOne K (.ref A.BadJournal) (.ref A.Writes) = some false
  k12 : PySem.W.kitOne K (.ref A.BadJournal) (.ref A.BadJournal) = some true
  k13 : PySem.W.kitOne K (.ref A.BadJournal) (.type "ValueError") = some true
def m_l_refused_rows (A : Adr) : FDm := fun ds M Q _ => ∃ (i j : Int) (rows : List D), ds = [.int i, .int j, .lst rows] ∧ (isNum (.int i) 1 && isNum (.int j) 0) = true ∧ 3 * rows.length ≤ 800000 ∧ (∀ x ∈ rows, itemF M x) ∧
  goneV rows.length (gtGo 0 (newRm i j) [] rows) ≠ .non ∧ ∀ M', Ext M M' → Q (.bl true) M'
theorem len_l_refused_rows (A : Adr) : ∀ ds M Q X, m_l_refused_rows A ds M Q X → ds.length = 3 := fun ds M Q X ⟨_, _, _, h, _⟩ => by subst h; rfl
theorem read_l_refused_rows (K : PySem.W.Frag) (A : Adr) (he : PySem.W.exmOne K (.ref A.BadJournal) (.ref A.RoomError) = some true) (B : BJ K A) : ∀ ds M Q X, m_l_refused_rows A ds M Q X → t_l_refused_rows K A (bodyE Q X) (startD 5 ds) M := by
  rintro ds M Q X ⟨i, j, rows, rfl, hn, hl, hit, hg, h⟩
  unfold t_l_refused_rows
  walk_at "dl"
  unfold t_l_refused_rows_1
  have sui : ∀ M', Ext M M' → ∀ (a : Addr) (δ : DS), δ = [some (.int i), some (.int j), some (.lst rows), some (.lst rows), none] → M' a = none → ∀ E : DEnds, E.rt = retD Q → (dSeq (dIfS (dB (dCall (isED K a A.BadJournal) (dCons (dVar 4) (dCons (dTup (dCons (dC (.obj A.Asked)) (dCons (dC (.obj A.BadName)) (dCons (dC (.obj A.BadNumber)) (dCons (dC (.obj A.BadText)) (dCons (dC (.obj A.BadWish)) (dCons (dC (.obj A.Inside)) (dCons (dC (.obj A.Known)) (dCons (dC (.obj A.Outside)) dNil))))))))) dNil)))) (dRet (dC (.bl false))) dNext)
      (dSeq (dIfS (dOr (dB (dCall (isED K a A.BadJournal) (dCons (dVar 4) (dCons (dTup (dCons (dC (.obj A.Reads)) (dCons (dC (.obj A.Stranger)) (dCons (dC (.obj A.Writes)) dNil)))) dNil)))) (dNot (dB (dCall (isED K a A.BadJournal) (dCons (dVar 4) (dCons (dC (.obj A.BadJournal)) dNil)))))) (dRet (dC (.bl false))) dNext)
      (dRet (dAndV (dOp (oEqX false) (dVar 3) (dVar 2)) (dCall (isED K a A.BadJournal) (dCons (dVar 4) (dCons (dC (.ty "ValueError")) dNil))))))) E (δ.set 4 (some (.obj a))) M' := fun M' x1 a δ hδ ha E hE => by
    subst hδ
    walk_at "dl"
    refine ⟨rfl, B.c, ?_⟩
    have e1 : kitV K A.BadJournal (.tup [.obj A.Asked, .obj A.BadName, .obj A.BadNumber, .obj A.BadText, .obj A.BadWish, .obj A.Inside, .obj A.Known, .obj A.Outside]) = some false :=
      kitAnyD_cons B.k1 (fun _ => kitAnyD_cons B.k2 (fun _ => kitAnyD_cons B.k3 (fun _ => kitAnyD_cons B.k4 (fun _ => kitAnyD_cons B.k5 (fun _ => kitAnyD_cons B.k6 (fun _ => kitAnyD_cons B.k7 (fun _ => kitAnyD_cons B.k8 (fun _ => rfl) (fun e => by cases e)) (fun e => by cases e)) (fun e => by cases e)) (fun e => by cases e)) (fun e => by cases e)) (fun e => by cases e)) (fun e => by cases e)) (fun e => by cases e)
    rw [e1, el_some]
    walk_at "dl"
    refine ⟨rfl, B.c, ?_⟩
    have e2 : kitV K A.BadJournal (.tup [.obj A.Reads, .obj A.Stranger, .obj A.Writes]) = some false :=
      kitAnyD_cons B.k9 (fun _ => kitAnyD_cons B.k10 (fun _ => kitAnyD_cons B.k11 (fun _ => rfl) (fun e => by cases e)) (fun e => by cases e)) (fun e => by cases e)
    rw [e2, el_some]
    walk_at "dl"
    refine ⟨rfl, B.c, ?_⟩
    rw [kitV_obj, B.k12, el_some]
    walk_at "dl"
    refine .inr (.inl ⟨rows, rfl, rfl, fun d hd => x1.item (hit d hd), ?_⟩)
    walk_at "dl"
    refine ⟨rfl, B.c, ?_⟩
    rw [kitV_ty, B.k13, el_some]
    walk_at "dl"
    rw [hE]
    exact retD_of (h M' x1)
  walk_at "dl"
  refine ⟨_, _, _, rows, rfl, .inl rfl, rfl, rfl, hl, hit, (fun e => by rw [hn] at e; cases e), fun i' j' ei ej _ => ?_⟩
  cases ei
  cases ej
  cases hgo : gtGo 0 (newRm i j) [] rows with
  | stop k => exact fun M' x1 => ⟨he, fun a ha => sui M' x1 a _ rfl ha _ rfl⟩
  | ok r due =>
    cases due with
    | nil => rw [hgo] at hg; exact absurd rfl hg
    | cons q rest => exact fun M' x1 => ⟨he, fun a ha => sui M' x1 a _ rfl ha _ rfl⟩

local macro_rules | `(tactic| walk_at "dl") => `(tactic| try simp -implicitDefEqProofs only [DL.dNext, DL.dSeq, DL.dExpr, DL.dRet, DL.dIfS, DL.dSet, DL.dCont, DL.dRaise, DL.dFor, DL.dgName, DL.dgPair, DL.dTry, DL.dFn, DL.dMth, DL.dMk, DL.dFld, DL.dFldS, DL.dPut, DL.dVar, DL.slot, DL.dC, DL.dOp, DL.dUn, DL.oSub, DL.oMul, DL.oDiv, DL.oMod, DL.oPow, DL.oLt, DL.oLe, DL.oGt, DL.oGe, DL.oEq, DL.oNe, DL.oIn, DL.oNotIn, DL.dB, DL.dIsN, DL.dChain, DL.dAnd, DL.dOr, DL.dNot, DL.dAndV, DL.dOrV, DL.dNotV, DL.dIf, DL.dNil, DL.dCons, DL.few, DL.dLst, DL.dTup, DL.dLstM, DL.dFrz, DL.dPairs, DL.dDisp, DL.dDic0, DL.dSl, DL.dNoPart, DL.dCall, DL.dMet0L, DL.dMet, DL.dItems, DL.dRange1, DL.dEnum, DL.dLcM, DL.dwipe, DL.startD, DL.dNever, DL.el_some, DL.elL_lst, DL.elD_dic, DL.elI_ins, DL.res_non, DL.res_bl, DL.res_int, DL.res_str, DL.res_lst, DL.res_tupE, DL.res_dic, DL.res_scr, DL.res_ty, DL.oAdd_eq, DL.addR_int, DL.addR_str, DL.addR_lst, DL.addR_tup, DL.oAddM_eq, DL.addMR_lst, DL.oInt_eq, DL.intR_int, DL.oInt0_eq, DL.int0R_int, DL.oNeg_eq, DL.negR_int, DL.oEqN_eq, DL.eqR_some, DL.eqR_none, DL.eqS_non_non, DL.eqS_non_int, DL.eqS_non_bl, DL.eqS_non_str, DL.eqS_non_lst, DL.eqS_non_tup, DL.eqS_int_non, DL.eqS_int_int, DL.eqS_int_bl, DL.eqS_int_str, DL.eqS_int_lst, DL.eqS_int_tup, DL.eqS_bl_non, DL.eqS_bl_int, DL.eqS_bl_bl, DL.eqS_bl_str, DL.eqS_bl_lst, DL.eqS_bl_tup, DL.eqS_str_non, DL.eqS_str_int, DL.eqS_str_bl, DL.eqS_str_str, DL.eqS_str_lst, DL.eqS_str_tup, DL.eqS_lst_non, DL.eqS_lst_int, DL.eqS_lst_bl, DL.eqS_lst_str, DL.eqS_lst_lst, DL.eqS_lst_tup, DL.eqS_tup_non, DL.eqS_tup_int, DL.eqS_tup_bl, DL.eqS_tup_str, DL.eqS_tup_lst, DL.eqS_tup_tup, DL.eqS_obj_non, DL.eqS_non_obj, DL.eqS_obj_int, DL.eqS_int_obj, DL.eqS_obj_bl, DL.eqS_bl_obj, DL.eqS_obj_str, DL.eqS_str_obj, DL.eqS_obj_lst, DL.eqS_lst_obj, DL.eqS_obj_tup, DL.eqS_tup_obj, DL.eqS_obj_obj, DL.oInN_eq, DL.inR_lst, DL.inR_tup, DL.inR_str, DL.flatD_non, DL.flatD_bl, DL.flatD_int, DL.flatD_str, DL.asB_bl, DL.isN_non, DL.isN_bl, DL.isN_int, DL.isN_str, DL.isN_lst, DL.isN_tup, DL.isN_dic, DL.isN_scr, DL.isN_ty, DL.isN_obj, DL.frz_non, DL.frz_bl, DL.frz_int, DL.frz_str, DL.frz_lst, DL.frz_tup, DL.frz_dic, DL.frz_scr, DL.frz_ty, DL.oIx_eq, DL.ixR_lst, DL.ixR_tup, DL.ixR_scr, DL.ixR_str, DL.ixR_dic, DL.nth_0, DL.nth_1, DL.nth_2, DL.nth_3, DL.oSl_eq, DL.slR_lst, DL.slR_tup, DL.slR_str, DL.dPart_eq, DL.partR_int, DL.on1_cons, DL.on2_cons, DL.lenD_lst, DL.lenD_tup, DL.lenD_scr, DL.lenD_str, DL.intD_int, DL.intD_bl, DL.strD_int, DL.int2_int, DL.listM_lst, DL.listF_lst, DL.listM_tup, DL.listF_tup, DL.dictM_dic, DL.isiD_ty, DL.oAppend_obj, DL.oInsert_obj, DL.oPop_obj, DL.oPopAt_obj, DL.isLst_eq, DL.isLstR_lst, DL.isStr_str, DL.oSplit_str, DL.oJoin_str, DL.itemsOf_lst, DL.itemsOf_tup, DL.itemsOf_str, DL.rng1_int, DL.enumOf_lst, DL.two_tup, DL.insIs_obj, DL.getFld_obj, DL.setFld_obj, DL.putDic_obj, DL.isB_str_non, DL.isB_str_bl, DL.isB_str_int, DL.isB_str_str, DL.isB_str_lst, DL.isB_str_tup, DL.isB_str_dic, DL.isB_int_non, DL.isB_int_bl, DL.isB_int_int, DL.isB_int_str, DL.isB_int_lst, DL.isB_int_tup, DL.isB_int_dic, DL.isB_bool_non, DL.isB_bool_bl, DL.isB_bool_int, DL.isB_bool_str, DL.isB_bool_lst, DL.isB_bool_tup, DL.isB_bool_dic, DL.isB_list_non, DL.isB_list_bl, DL.isB_list_int, DL.isB_list_str, DL.isB_list_lst, DL.isB_list_tup, DL.isB_list_dic, DL.isB_tuple_non, DL.isB_tuple_bl, DL.isB_tuple_int, DL.isB_tuple_str, DL.isB_tuple_lst, DL.isB_tuple_tup, DL.isB_tuple_dic, Bool.cond_true, Bool.cond_false, L2.CDiv, Int.reduceLT, Int.reduceLE, true_and, and_true, cond_true, cond_false, List.map_cons, List.map_nil, List.set_cons_zero, List.set_cons_succ, List.set_nil, DL.cpow_109, DL.pow_109, DL.frz_set_lst, DL.frz_set_dic, Bool.not_true, Bool.not_false, DL.itemsOf_obj, DL.enumOf_obj, DL.all_still, okD_non, okD_bl, okD_int, okD_str, okD_lst, okD_tup, okD_dic, res_set_lst, Mem.set_same, Mem.set_set, lk_seats, lk_patience, lk_reading, lk_alone, lk_asking, lk_waiting, lk_rows, no_is_inside, no_is_waiting, no_look, no_come, no_leave, no_ask, no_ease, no_settled, no_begun, no_readers, no_writer, no_asker, no_line, no_passed, no_journal, dp_reading, dp_reading0, dp_reading1, dp_alone, dp_alone0, dp_asking, dp_asking0, dp_waiting, dp_rows, few_flds, eNames, isN_optS, res_optS, optS_some, optS_none, Option.isNone_none, Option.isNone_some, ln_queue, ln_reading, ln_alone, ln_asked, dn_queue, dn_reading, dn_reading0, dn_reading1, dn_aloneO, dn_alone, dn_alone0, dn_asked, dn_asked0, few_eN, nod_eN, eqS_optS2, m_l_cell_at, Int.reduceLE, m_l_number_by, m_l_seats, m_l_patience, m_l_people, m_l_names, m_l_wish_by, m_l_crowd, m_is_name, m_is_wish, m_can_begin, canBegin_read, canBegin_write, canBegin_wish, m_is_number, m_l_name, m_l_whole, isWhole, DL.dTryAs])
local macro_rules | `(tactic| walk_at "dl") => `(tactic| try simp -implicitDefEqProofs only [DL.dNext, DL.dSeq, DL.dExpr, DL.dRet, DL.dIfS, DL.dSet, DL.dCont, DL.dRaise, DL.dFor, DL.dgName, DL.dgPair, DL.dTry, DL.dFn, DL.dMth, DL.dMk, DL.dFld, DL.dFldS, DL.dPut, DL.dVar, DL.slot, DL.dC, DL.dOp, DL.dUn, DL.oSub, DL.oMul, DL.oDiv, DL.oMod, DL.oPow, DL.oLt, DL.oLe, DL.oGt, DL.oGe, DL.oEq, DL.oNe, DL.oIn, DL.oNotIn, DL.dB, DL.dIsN, DL.dChain, DL.dAnd, DL.dOr, DL.dNot, DL.dAndV, DL.dOrV, DL.dNotV, DL.dIf, DL.dNil, DL.dCons, DL.few, DL.dLst, DL.dTup, DL.dLstM, DL.dFrz, DL.dPairs, DL.dDisp, DL.dDic0, DL.dSl, DL.dNoPart, DL.dCall, DL.dMet0L, DL.dMet, DL.dItems, DL.dRange1, DL.dEnum, DL.dLcM, DL.dwipe, DL.startD, DL.dNever, DL.el_some, DL.elL_lst, DL.elD_dic, DL.elI_ins, DL.res_non, DL.res_bl, DL.res_int, DL.res_str, DL.res_lst, DL.res_tupE, DL.res_dic, DL.res_scr, DL.res_ty, DL.oAdd_eq, DL.addR_int, DL.addR_str, DL.addR_lst, DL.addR_tup, DL.oAddM_eq, DL.addMR_lst, DL.oInt_eq, DL.intR_int, DL.oInt0_eq, DL.int0R_int, DL.oNeg_eq, DL.negR_int, DL.oEqN_eq, DL.eqR_some, DL.eqR_none, DL.eqS_non_non, DL.eqS_non_int, DL.eqS_non_bl, DL.eqS_non_str, DL.eqS_non_lst, DL.eqS_non_tup, DL.eqS_int_non, DL.eqS_int_int, DL.eqS_int_bl, DL.eqS_int_str, DL.eqS_int_lst, DL.eqS_int_tup, DL.eqS_bl_non, DL.eqS_bl_int, DL.eqS_bl_bl, DL.eqS_bl_str, DL.eqS_bl_lst, DL.eqS_bl_tup, DL.eqS_str_non, DL.eqS_str_int, DL.eqS_str_bl, DL.eqS_str_str, DL.eqS_str_lst, DL.eqS_str_tup, DL.eqS_lst_non, DL.eqS_lst_int, DL.eqS_lst_bl, DL.eqS_lst_str, DL.eqS_lst_lst, DL.eqS_lst_tup, DL.eqS_tup_non, DL.eqS_tup_int, DL.eqS_tup_bl, DL.eqS_tup_str, DL.eqS_tup_lst, DL.eqS_tup_tup, DL.eqS_obj_non, DL.eqS_non_obj, DL.eqS_obj_int, DL.eqS_int_obj, DL.eqS_obj_bl, DL.eqS_bl_obj, DL.eqS_obj_str, DL.eqS_str_obj, DL.eqS_obj_lst, DL.eqS_lst_obj, DL.eqS_obj_tup, DL.eqS_tup_obj, DL.eqS_obj_obj, DL.oInN_eq, DL.inR_lst, DL.inR_tup, DL.inR_str, DL.flatD_non, DL.flatD_bl, DL.flatD_int, DL.flatD_str, DL.asB_bl, DL.isN_non, DL.isN_bl, DL.isN_int, DL.isN_str, DL.isN_lst, DL.isN_tup, DL.isN_dic, DL.isN_scr, DL.isN_ty, DL.isN_obj, DL.frz_non, DL.frz_bl, DL.frz_int, DL.frz_str, DL.frz_lst, DL.frz_tup, DL.frz_dic, DL.frz_scr, DL.frz_ty, DL.oIx_eq, DL.ixR_lst, DL.ixR_tup, DL.ixR_scr, DL.ixR_str, DL.ixR_dic, DL.nth_0, DL.nth_1, DL.nth_2, DL.nth_3, DL.oSl_eq, DL.slR_lst, DL.slR_tup, DL.slR_str, DL.dPart_eq, DL.partR_int, DL.on1_cons, DL.on2_cons, DL.lenD_lst, DL.lenD_tup, DL.lenD_scr, DL.lenD_str, DL.intD_int, DL.intD_bl, DL.strD_int, DL.int2_int, DL.listM_lst, DL.listF_lst, DL.listM_tup, DL.listF_tup, DL.dictM_dic, DL.isiD_ty, DL.oAppend_obj, DL.oInsert_obj, DL.oPop_obj, DL.oPopAt_obj, DL.isLst_eq, DL.isLstR_lst, DL.isStr_str, DL.oSplit_str, DL.oJoin_str, DL.itemsOf_lst, DL.itemsOf_tup, DL.itemsOf_str, DL.rng1_int, DL.enumOf_lst, DL.two_tup, DL.insIs_obj, DL.getFld_obj, DL.setFld_obj, DL.putDic_obj, DL.isB_str_non, DL.isB_str_bl, DL.isB_str_int, DL.isB_str_str, DL.isB_str_lst, DL.isB_str_tup, DL.isB_str_dic, DL.isB_int_non, DL.isB_int_bl, DL.isB_int_int, DL.isB_int_str, DL.isB_int_lst, DL.isB_int_tup, DL.isB_int_dic, DL.isB_bool_non, DL.isB_bool_bl, DL.isB_bool_int, DL.isB_bool_str, DL.isB_bool_lst, DL.isB_bool_tup, DL.isB_bool_dic, DL.isB_list_non, DL.isB_list_bl, DL.isB_list_int, DL.isB_list_str, DL.isB_list_lst, DL.isB_list_tup, DL.isB_list_dic, DL.isB_tuple_non, DL.isB_tuple_bl, DL.isB_tuple_int, DL.isB_tuple_str, DL.isB_tuple_lst, DL.isB_tuple_tup, DL.isB_tuple_dic, Bool.cond_true, Bool.cond_false, L2.CDiv, Int.reduceLT, Int.reduceLE, true_and, and_true, cond_true, cond_false, List.map_cons, List.map_nil, List.set_cons_zero, List.set_cons_succ, List.set_nil, DL.cpow_109, DL.pow_109, DL.frz_set_lst, DL.frz_set_dic, Bool.not_true, Bool.not_false, DL.itemsOf_obj, DL.enumOf_obj, DL.all_still, okD_non, okD_bl, okD_int, okD_str, okD_lst, okD_tup, okD_dic, res_set_lst, Mem.set_same, Mem.set_set, lk_seats, lk_patience, lk_reading, lk_alone, lk_asking, lk_waiting, lk_rows, no_is_inside, no_is_waiting, no_look, no_come, no_leave, no_ask, no_ease, no_settled, no_begun, no_readers, no_writer, no_asker, no_line, no_passed, no_journal, dp_reading, dp_reading0, dp_reading1, dp_alone, dp_alone0, dp_asking, dp_asking0, dp_waiting, dp_rows, few_flds, eNames, isN_optS, res_optS, optS_some, optS_none, Option.isNone_none, Option.isNone_some, ln_queue, ln_reading, ln_alone, ln_asked, dn_queue, dn_reading, dn_reading0, dn_reading1, dn_aloneO, dn_alone, dn_alone0, dn_asked, dn_asked0, few_eN, nod_eN, eqS_optS2, m_l_cell_at, Int.reduceLE, m_l_number_by, m_l_seats, m_l_patience, m_l_people, m_l_names, m_l_wish_by, m_l_crowd, m_is_name, m_is_wish, m_can_begin, canBegin_read, canBegin_write, canBegin_wish, m_is_number, m_l_name, m_l_whole, isWhole, DL.dTryAs])
/-! ### law(_law_script): 0 _law_script, 1 _law_seats_here, 2 _law_patience_here, 3 _law_rows, 4 _law_none, 5 _law_due, 6 _law_handed, 7 _law_found -/
def t_law_13 (A : Adr) : DSt :=
  (dRet (dOrV (dIsN false (dVar 5)) (dFn (m_l_refused_rows A) (dCons (dVar 1) (dCons (dVar 2) (dCons (dVar 3) dNil))))))
def t_law_12 (A : Adr) : DSt :=
  (dSeq (dIfS (dNot (dB (dFn m_l_told (dCons (dFn (m_judged A) (dCons (dVar 1) (dCons (dVar 2) (dCons (dVar 6) dNil)))) (dCons (dVar 5) dNil))))) (dRet (dC (.bl false))) dNext)
  (t_law_13 A))
def t_law_11 (A : Adr) : DSt :=
  (dSeq (dExpr (dMet0L oPop (dVar 6)))
  (t_law_12 A))
def t_law_10 (A : Adr) : DSt :=
  (dSeq (dIfS (dNot (dB (dFn m_l_told (dCons (dFn (m_judged A) (dCons (dVar 1) (dCons (dVar 2) (dCons (dVar 6) dNil)))) (dCons (dFn m_l_gone (dCons (dOp oAdd (dVar 3) (dLst (dCons (dTup (dCons (dC (.str "left")) (dCons (dC (.str "a")) dNil))) dNil))) (dCons (dVar 1) (dCons (dVar 2) dNil)))) dNil))))) (dRet (dC (.bl false))) dNext)
  (t_law_11 A))
def t_law_9 (A : Adr) : DSt :=
  (dSeq (dExpr (dMet isLst oAppend (dVar 6) (dCons (dTup (dCons (dC (.str "left")) (dCons (dC (.str "a")) dNil))) dNil)))
  (t_law_10 A))
def t_law_8 (A : Adr) : DSt :=
  (dSeq (dIfS (dOr (dB (dOp (oEqX true) (dVar 6) (dVar 3))) (dNot (dB (dFn m_l_told (dCons (dVar 7) (dCons (dVar 5) dNil)))))) (dRet (dC (.bl false))) dNext)
  (t_law_9 A))
def t_law_7 (A : Adr) : DSt :=
  (dSeq (dSet 7 (dFn (m_judged A) (dCons (dVar 1) (dCons (dVar 2) (dCons (dVar 6) dNil)))))
  (t_law_8 A))
def t_law_6 (A : Adr) : DSt :=
  (dSeq (dSet 6 (dCall (on1 listM) (dCons (dVar 3) dNil)))
  (t_law_7 A))
def t_law_5 (A : Adr) : DSt :=
  (dSeq (dSet 5 (dFn m_l_gone (dCons (dVar 3) (dCons (dVar 1) (dCons (dVar 2) dNil)))))
  (t_law_6 A))
def t_law_4 (A : Adr) : DSt :=
  (dSeq (dIfS (dB (dOp (oEqX false) (dOp oMod (dOp oDiv (dFn m_l_cell_at (dCons (dVar 0) (dCons (dC (.int 1)) dNil))) (dC (.int 54))) (dC (.int 9))) (dC (.int 1)))) (dSeq (dSet 4 (dOp oIx (dLst (dCons (dC (.int 0)) (dCons (dC (.bl true)) (dCons (dOp oAdd (dOp oPow (dC (.int 10)) (dC (.int 9))) (dC (.int 1))) (dCons (dC .non) dNil))))) (dOp oMod (dOp oDiv (dFn m_l_cell_at (dCons (dVar 0) (dCons (dC (.int 4)) dNil))) (dC (.int 40))) (dC (.int 4)))))
  (dRet (dAndV (dFn (m_l_refuses A) (dCons (dVar 4) (dCons (dVar 2) (dCons (dVar 3) dNil)))) (dFn (m_l_refuses A) (dCons (dVar 1) (dCons (dOp oIx (dLst (dCons (dUn oNeg (dC (.int 1))) (dCons (dC (.bl false)) (dCons (dC (.str "1")) dNil)))) (dOp oMod (dVar 1) (dC (.int 3)))) (dCons (dVar 3) dNil))))))) dNext)
  (t_law_5 A))
def t_law_3 (A : Adr) : DSt :=
  (dSeq (dSet 3 (dFn m_l_spoilt (dCons (dVar 3) (dCons (dOp oDiv (dFn m_l_cell_at (dCons (dVar 0) (dCons (dC (.int 2)) dNil))) (dC (.int 12))) (dCons (dOp oDiv (dFn m_l_cell_at (dCons (dVar 0) (dCons (dC (.int 3)) dNil))) (dC (.int 33))) dNil)))))
  (t_law_4 A))
def t_law_2 (A : Adr) : DSt :=
  (dSeq (dSet 3 (dFn m_l_journal (dCons (dVar 0) (dCons (dVar 1) (dCons (dVar 2) dNil)))))
  (t_law_3 A))
def t_law_1 (A : Adr) : DSt :=
  (dSeq (dSet 2 (dFn m_l_patience (dCons (dVar 0) dNil)))
  (t_law_2 A))
def t_law (A : Adr) : DSt :=
  (dSeq (dSet 1 (dFn m_l_seats (dCons (dVar 0) dNil)))
  (t_law_1 A))
local macro_rules | `(tactic| walk_at "un") => `(tactic| simp only [t_law_13, t_law_12, t_law_11, t_law_10, t_law_9, t_law_8, t_law_7, t_law_6, t_law_5, t_law_4, t_law_3, t_law_2, t_law_1, t_law])
abbrev m_law : FDm := mLaw
theorem len_law : ∀ ds M Q X, m_law ds M Q X → ds.length = 1 := fun ds M Q X ⟨ns, h, _⟩ => by subst h; rfl
theorem gone_plain (n : Nat) (g : GR) : goneV n g = .non ∨ ∃ i, goneV n g = .int i := by
  cases g with
  | stop k => exact .inr ⟨_, rfl⟩
  | ok r due =>
    cases due with
    | nil => exact .inl rfl
    | cons _ _ => exact .inr ⟨_, rfl⟩
theorem read_law (A : Adr) : ∀ ds M Q X, m_law ds M Q X → t_law A (bodyE Q X) (startD 8 ds) M := by
  rintro ds M Q X ⟨ns, rfl, hl, h⟩
  unfold t_law t_law_1 t_law_2
  walk_at "dl"
  intro s s1 s2 p p1 p2
  refine ⟨by omega, s1, fun rws hlr hro => ?_⟩
  unfold t_law_3
  walk_at "dl"
  refine ⟨rws, _, _, rfl, hro, by omega, fun rows M1 x1 hlen hit => ?_⟩
  have hlen : rows.length ≤ 5000 := by omega
  have e1 : isNum (.int s) 1 = true := by
    show (decide (1 ≤ s) && decide (s ≤ 1000000000)) = true
    rw [decide_eq_true s1, decide_eq_true s2]; rfl
  have e2 : isNum (.int p) 0 = true := by
    show (decide (0 ≤ p) && decide (p ≤ 1000000000)) = true
    rw [decide_eq_true p1, decide_eq_true p2]; rfl
  have e12 : (isNum (.int s) 1 && isNum (.int p) 0) = true := by rw [e1, e2]; rfl
  unfold t_law_4
  walk_at "dl"
  refine .inl ?_
  walk_at "dl"
  refine cond_of (fun _ => ?_) fun _ => ?_
  · obtain ⟨d, hd, en⟩ := nth_mod [D.int 0, D.bl true, D.int (1000000000 + 1), D.non] (cellAt ns 4 / 40) 4 rfl (by decide)
    rw [show nth [D.int 0, D.bl true, D.int (1000000000 + 1), D.non] (cellAt ns 4 / 40 % 4) = some d from en, el_some]
    have hd2 : okD d = true ∧ isNum d 1 = false := by
      simp only [List.mem_cons, List.not_mem_nil, or_false] at hd
      rcases hd with rfl | rfl | rfl | rfl
      · exact ⟨rfl, by decide⟩
      · exact ⟨rfl, rfl⟩
      · exact ⟨rfl, by decide⟩
      · exact ⟨rfl, rfl⟩
    refine ⟨d, _, rows, rfl, hd2.1, rfl, by rw [hd2.2]; rfl, by omega, hit, fun M2 x2 => ?_⟩
    walk_at "dl"
    obtain ⟨d2, hd, en⟩ := nth_mod [D.int (-1), D.bl false, D.str (Str.ofString "1")] s 3 rfl (by decide)
    rw [show nth [D.int (-1), D.bl false, D.str (Str.ofString "1")] (s % 3) = some d2 from en, el_some]
    have hd3 : okD d2 = true ∧ isNum d2 0 = false := by
      simp only [List.mem_cons, List.not_mem_nil, or_false] at hd
      rcases hd with rfl | rfl | rfl
      · exact ⟨rfl, by decide⟩
      · exact ⟨rfl, rfl⟩
      · exact ⟨rfl, rfl⟩
    exact ⟨_, d2, rows, rfl, rfl, hd3.1, by rw [hd3.2, Bool.and_false], by omega, fun x hx => x2.item (hit x hx), fun M3 x3 => retD_of (h _)⟩
  unfold t_law_5
  walk_at "dl"
  refine ⟨s, p, rows, rfl, s1, by omega, hit, ?_⟩
  generalize hg : gtGo 0 (newRm s p) [] rows = g
  unfold t_law_6
  walk_at "dl"
  intro w hw
  have f1 : (M1.set w (.lst rows)) w = some (.lst rows) := Mem.set_same
  have i1 : ∀ x ∈ rows, itemF (M1.set w (.lst rows)) x := fun x hx => (Ext.set hw).item (hit x hx)
  generalize M1.set w (.lst rows) = M2 at f1 i1 ⊢
  unfold t_law_7
  walk_at "dl"
  refine ⟨_, _, _, rows, rfl, .inr ⟨w, rfl, f1⟩, rfl, rfl, by omega, i1, (fun e => by rw [e12] at e; cases e), fun i j ei ej _ M3 x3 => ?_⟩
  cases ei
  cases ej
  rw [hg]
  have f3 := x3.some f1
  have i3 : ∀ x ∈ rows, itemF M3 x := fun x hx => x3.item (i1 x hx)
  unfold t_law_8
  walk_at "dl"
  refine .inr (.inl ⟨rows, res_obj f3, rfl, i3, ?_⟩)
  walk_at "dl"
  refine ⟨_, rfl, gone_plain _ _, ?_⟩
  walk_at "dl"
  unfold t_law_9
  walk_at "dl"
  rw [res_obj f3]
  walk_at "dl"
  rw [f3]
  walk_at "dl"
  refine ⟨by rw [sizeLine_eq]; omega, ?_⟩
  have f4 : (M3.set w (.lst (rows ++ [D.tup [D.str (Str.ofString "left"), D.str (Str.ofString "a")]]))) w = some (.lst (rows ++ [D.tup [D.str (Str.ofString "left"), D.str (Str.ofString "a")]])) := Mem.set_same
  have i4 : ∀ x ∈ rows ++ [D.tup [D.str (Str.ofString "left"), D.str (Str.ofString "a")]], itemF (M3.set w (.lst (rows ++ [D.tup [D.str (Str.ofString "left"), D.str (Str.ofString "a")]]))) x := fun x hx => by
    rcases List.mem_append.mp hx with e | e
    · exact item_set f3 (i3 x e)
    · rw [List.mem_singleton.mp e]
      exact .inl (flat_row (.left (Str.ofString "a")))
  generalize M3.set w (.lst (rows ++ [D.tup [D.str (Str.ofString "left"), D.str (Str.ofString "a")]])) = M4 at f4 i4 ⊢
  unfold t_law_10
  walk_at "dl"
  have la : (rows ++ [D.tup [D.str (Str.ofString "left"), D.str (Str.ofString "a")]]).length = rows.length + 1 := by rw [List.length_append]; rfl
  refine ⟨_, _, _, _, rfl, .inr ⟨w, rfl, f4⟩, rfl, rfl, by omega, i4, (fun e => by rw [e12] at e; cases e), fun i j ei ej _ M5 x5 => ?_⟩
  cases ei
  cases ej
  have f5 := x5.some f4
  have i5 : ∀ x ∈ rows ++ [D.tup [D.str (Str.ofString "left"), D.str (Str.ofString "a")]], itemF M5 x := fun x hx => x5.item (i4 x hx)
  refine ⟨by rw [sizeLine_eq]; show rows.length + 1 ≤ _; omega, ?_⟩
  refine ⟨s, p, _, rfl, s1, by omega, i5, ?_⟩
  refine ⟨_, rfl, gone_plain _ _, ?_⟩
  walk_at "dl"
  unfold t_law_11
  walk_at "dl"
  rw [f5]
  walk_at "dl"
  rw [res_obj f5]
  refine ⟨trivial, ?_⟩
  rw [la, Nat.add_sub_cancel, List.getElem?_append_right (Nat.le_refl _), Nat.sub_self]
  show t_law_12 A _ _ _
  rw [List.dropLast_concat]
  have f6 : (M5.set w (.lst rows)) w = some (.lst rows) := Mem.set_same
  have i6 : ∀ x ∈ rows, itemF (M5.set w (.lst rows)) x := fun x hx => item_set f5 (i5 x (List.mem_append.mpr (.inl hx)))
  generalize M5.set w (.lst rows) = M6 at f6 i6 ⊢
  unfold t_law_12
  walk_at "dl"
  refine ⟨_, _, _, rows, rfl, .inr ⟨w, rfl, f6⟩, rfl, rfl, by omega, i6, (fun e => by rw [e12] at e; cases e), fun i j ei ej _ M7 x7 => ?_⟩
  cases ei
  cases ej
  rw [hg]
  have i7 : ∀ x ∈ rows, itemF M7 x := fun x hx => x7.item (i6 x hx)
  refine ⟨_, rfl, gone_plain _ _, ?_⟩
  walk_at "dl"
  unfold t_law_13
  walk_at "dl"
  have ref : isN (goneV rows.length g) = false → m_l_refused_rows A [.int s, .int p, .lst rows] M7 (retD Q) fun cls M' => retX X cls [some (.scr ns), some (.int s), some (.int p), some (.lst rows), none, some (goneV rows.length g), some (.obj w), some (goneV rows.length g)] M' := fun e =>
    ⟨s, p, rows, rfl, e12, by omega, i7, (by rw [hg]; intro e2; rw [e2] at e; cases e), fun M8 x8 => retD_of (h _)⟩
  cases hb : isN (goneV rows.length g) with
  | true => exact retD_of (h _)
  | false => exact ref hb

end My
namespace My
open PySem PySem.Spec PyProof.Rows L2 DL
def topS (i : Nat) : Stmt := PySem.Challenge.pw_readwriteroom_k13_whole_judged.main.body.getD i (.Pass ⟨0, 0, 0, 0⟩)
structure Txt (K : PySem.W.Frag) (mg : Str → Option Value) (A : Adr) : Prop where
  zero : True
  b_ValueError : mg "ValueError" = none
  b_bool : mg "bool" = none
  b_dict : mg "dict" = none
  b_enumerate : mg "enumerate" = none
  b_int : mg "int" = none
  b_isinstance : mg "isinstance" = none
  b_len : mg "len" = none
  b_list : mg "list" = none
  b_max : mg "max" = none
  b_range : mg "range" = none
  b_str : mg "str" = none
  b_tuple : mg "tuple" = none
  mg_LONGEST : ∃ u, mg "LONGEST" = some u ∧ RelV (.int 12) u
  mg_MOST : ∃ u, mg "MOST" = some u ∧ RelV (.int 1000000000) u
  mg_SIGNS : ∃ u, mg "SIGNS" = some u ∧ RelV (.str "abcdefghijklmnopqrstuvwxyz0123456789") u
  mg_RoomError : mg "RoomError" = some (.ref A.RoomError)
  mg_BadName : mg "BadName" = some (.ref A.BadName)
  mg_BadWish : mg "BadWish" = some (.ref A.BadWish)
  mg_BadNumber : mg "BadNumber" = some (.ref A.BadNumber)
  mg_Known : mg "Known" = some (.ref A.Known)
  mg_Stranger : mg "Stranger" = some (.ref A.Stranger)
  mg_Outside : mg "Outside" = some (.ref A.Outside)
  mg_Inside : mg "Inside" = some (.ref A.Inside)
  mg_Reads : mg "Reads" = some (.ref A.Reads)
  mg_Writes : mg "Writes" = some (.ref A.Writes)
  mg_Asked : mg "Asked" = some (.ref A.Asked)
  mg_BadText : mg "BadText" = some (.ref A.BadText)
  mg_BadJournal : mg "BadJournal" = some (.ref A.BadJournal)
  x_BadName : PySem.W.excIn K A.BadName [.type "ValueError", .type "Exception", .type "BaseException", .type "object"] "ValueError.__new__" = true
  k_BadName : PySem.W.keepIn K (.ref A.BadName) = true
  s_BadName : PySem.W.subIn K (.ref A.BadName) (.type "BaseException") = some true
  t_BadName : PySem.W.typeIn K (.ref A.BadName) = some (.type "type")
  e_BadName_RoomError : PySem.W.exmOne K (.ref A.BadName) (.ref A.RoomError) = some true
  x_BadWish : PySem.W.excIn K A.BadWish [.type "ValueError", .type "Exception", .type "BaseException", .type "object"] "ValueError.__new__" = true
  k_BadWish : PySem.W.keepIn K (.ref A.BadWish) = true
  s_BadWish : PySem.W.subIn K (.ref A.BadWish) (.type "BaseException") = some true
  t_BadWish : PySem.W.typeIn K (.ref A.BadWish) = some (.type "type")
  e_BadWish_RoomError : PySem.W.exmOne K (.ref A.BadWish) (.ref A.RoomError) = some true
  x_BadNumber : PySem.W.excIn K A.BadNumber [.type "ValueError", .type "Exception", .type "BaseException", .type "object"] "ValueError.__new__" = true
  k_BadNumber : PySem.W.keepIn K (.ref A.BadNumber) = true
  s_BadNumber : PySem.W.subIn K (.ref A.BadNumber) (.type "BaseException") = some true
  t_BadNumber : PySem.W.typeIn K (.ref A.BadNumber) = some (.type "type")
  e_BadNumber_RoomError : PySem.W.exmOne K (.ref A.BadNumber) (.ref A.RoomError) = some true
  e_BadNumber_BadNumber : PySem.W.exmOne K (.ref A.BadNumber) (.ref A.BadNumber) = some true
  x_Known : PySem.W.excIn K A.Known [.type "ValueError", .type "Exception", .type "BaseException", .type "object"] "ValueError.__new__" = true
  k_Known : PySem.W.keepIn K (.ref A.Known) = true
  s_Known : PySem.W.subIn K (.ref A.Known) (.type "BaseException") = some true
  t_Known : PySem.W.typeIn K (.ref A.Known) = some (.type "type")
  e_Known_RoomError : PySem.W.exmOne K (.ref A.Known) (.ref A.RoomError) = some true
  x_Stranger : PySem.W.excIn K A.Stranger [.type "ValueError", .type "Exception", .type "BaseException", .type "object"] "ValueError.__new__" = true
  k_Stranger : PySem.W.keepIn K (.ref A.Stranger) = true
  s_Stranger : PySem.W.subIn K (.ref A.Stranger) (.type "BaseException") = some true
  t_Stranger : PySem.W.typeIn K (.ref A.Stranger) = some (.type "type")
  e_Stranger_RoomError : PySem.W.exmOne K (.ref A.Stranger) (.ref A.RoomError) = some true
  x_Outside : PySem.W.excIn K A.Outside [.type "ValueError", .type "Exception", .type "BaseException", .type "object"] "ValueError.__new__" = true
  k_Outside : PySem.W.keepIn K (.ref A.Outside) = true
  s_Outside : PySem.W.subIn K (.ref A.Outside) (.type "BaseException") = some true
  t_Outside : PySem.W.typeIn K (.ref A.Outside) = some (.type "type")
  e_Outside_RoomError : PySem.W.exmOne K (.ref A.Outside) (.ref A.RoomError) = some true
  x_Reads : PySem.W.excIn K A.Reads [.type "ValueError", .type "Exception", .type "BaseException", .type "object"] "ValueError.__new__" = true
  k_Reads : PySem.W.keepIn K (.ref A.Reads) = true
  s_Reads : PySem.W.subIn K (.ref A.Reads) (.type "BaseException") = some true
  t_Reads : PySem.W.typeIn K (.ref A.Reads) = some (.type "type")
  e_Reads_RoomError : PySem.W.exmOne K (.ref A.Reads) (.ref A.RoomError) = some true
  x_Writes : PySem.W.excIn K A.Writes [.type "ValueError", .type "Exception", .type "BaseException", .type "object"] "ValueError.__new__" = true
  k_Writes : PySem.W.keepIn K (.ref A.Writes) = true
  s_Writes : PySem.W.subIn K (.ref A.Writes) (.type "BaseException") = some true
  t_Writes : PySem.W.typeIn K (.ref A.Writes) = some (.type "type")
  e_Writes_RoomError : PySem.W.exmOne K (.ref A.Writes) (.ref A.RoomError) = some true
  x_Asked : PySem.W.excIn K A.Asked [.type "ValueError", .type "Exception", .type "BaseException", .type "object"] "ValueError.__new__" = true
  k_Asked : PySem.W.keepIn K (.ref A.Asked) = true
  s_Asked : PySem.W.subIn K (.ref A.Asked) (.type "BaseException") = some true
  t_Asked : PySem.W.typeIn K (.ref A.Asked) = some (.type "type")
  e_Asked_RoomError : PySem.W.exmOne K (.ref A.Asked) (.ref A.RoomError) = some true
  x_BadJournal : PySem.W.excIn K A.BadJournal [.type "ValueError", .type "Exception", .type "BaseException", .type "object"] "ValueError.__new__" = true
  k_BadJournal : PySem.W.keepIn K (.ref A.BadJournal) = true
  s_BadJournal : PySem.W.subIn K (.ref A.BadJournal) (.type "BaseException") = some true
  t_BadJournal : PySem.W.typeIn K (.ref A.BadJournal) = some (.type "type")
  e_BadJournal_RoomError : PySem.W.exmOne K (.ref A.BadJournal) (.ref A.RoomError) = some true
  ec_BadJournal : ExcC K A.BadJournal
  i_BadJournal_BadName : PySem.W.kitOne K (.ref A.BadJournal) (.ref A.BadName) = some false
  i_BadJournal_BadWish : PySem.W.kitOne K (.ref A.BadJournal) (.ref A.BadWish) = some false
  i_BadJournal_BadNumber : PySem.W.kitOne K (.ref A.BadJournal) (.ref A.BadNumber) = some false
  i_BadJournal_Known : PySem.W.kitOne K (.ref A.BadJournal) (.ref A.Known) = some false
  i_BadJournal_Stranger : PySem.W.kitOne K (.ref A.BadJournal) (.ref A.Stranger) = some false
  i_BadJournal_Outside : PySem.W.kitOne K (.ref A.BadJournal) (.ref A.Outside) = some false
  i_BadJournal_Inside : PySem.W.kitOne K (.ref A.BadJournal) (.ref A.Inside) = some false
  i_BadJournal_Reads : PySem.W.kitOne K (.ref A.BadJournal) (.ref A.Reads) = some false
  i_BadJournal_Writes : PySem.W.kitOne K (.ref A.BadJournal) (.ref A.Writes) = some false
  i_BadJournal_Asked : PySem.W.kitOne K (.ref A.BadJournal) (.ref A.Asked) = some false
  i_BadJournal_BadText : PySem.W.kitOne K (.ref A.BadJournal) (.ref A.BadText) = some false
  i_BadJournal_BadJournal : PySem.W.kitOne K (.ref A.BadJournal) (.ref A.BadJournal) = some true
  i_BadJournal_ValueError : PySem.W.kitOne K (.ref A.BadJournal) (.type "ValueError") = some true
  cl_Room : Cls K A.Room
  mg_Room : mg "Room" = some (.ref A.Room)
  no_alone : NoAttr K A.Room "alone"
  no_asking : NoAttr K A.Room "asking"
  no_patience : NoAttr K A.Room "patience"
  no_reading : NoAttr K A.Room "reading"
  no_rows : NoAttr K A.Room "rows"
  no_seats : NoAttr K A.Room "seats"
  no_waiting : NoAttr K A.Room "waiting"
section
variable {P : Program} {w : World} {K : PySem.W.Frag} {mg : Str → Option Value} {base : Heap} {A : Adr}
abbrev s_l_cell_at : Stmt := topS 34
abbrev n_l_cell_at : List Str := ["_law_script", "_law_k"]
theorem sc_l_cell_at : FnScope n_l_cell_at ["_law_script", "_law_k"] (defScope s_l_cell_at) := ⟨rfl, rfl, rfl, by decide +kernel, rfl, by decide +kernel, by decide +kernel⟩
theorem ok_l_cell_at {f : Addr} {fd : FuncData} (F : Fun K "_law_cell_at" "_law_cell_at" s_l_cell_at f fd) (T : Txt K mg A)  : FnD P w K mg base 1 f fd ["_law_script", "_law_k"] m_l_cell_at := by
  refine DL.okD (N := n_l_cell_at) F sc_l_cell_at len_l_cell_at (by decide) (fun cdv Ar outer s H E hr => ?_) read_l_cell_at
  have hu := hu_of hr
  have hw := hr.units
  have nd := sc_l_cell_at.nd
  have tk : Takes (cxOf (L2.CX P w) P w K mg base n_l_cell_at "_law_cell_at" (defScope s_l_cell_at) f cdv Ar outer s H E) (WE0 E) := takes_of rfl rfl rfl rfl
  have hp : PassesOwn (model P w) (Ar.deeper (envOfC "_law_cell_at" (defScope s_l_cell_at) s.heap.objs.size f cdv)) (envOfC "_law_cell_at" (defScope s_l_cell_at) s.heap.objs.size f cdv) (cxOf (L2.CX P w) P w K mg base n_l_cell_at "_law_cell_at" (defScope s_l_cell_at) f cdv Ar outer s H E).xe := passes_of (X := cxOf (L2.CX P w) P w K mg base n_l_cell_at "_law_cell_at" (defScope s_l_cell_at) f cdv Ar outer s H E) rfl
  exact (pdss_cons (pds_if (pdt_lt (pd_v 1) (pd_callB call_len l_len rfl T.b_len (by decide +kernel) (pda_cons (pd_v 0) pda_nil))) (pdss_one (pds_ret (pd_ix hu (pd_v 0) (pd_v 1)))) pdss_nil)
      (pdss_one (pds_ret pd_int)))
abbrev s_l_number_by : Stmt := topS 36
abbrev n_l_number_by : List Str := ["_law_cell", "_law_least", "_law_way"]
theorem sc_l_number_by : FnScope n_l_number_by ["_law_cell", "_law_least"] (defScope s_l_number_by) := ⟨rfl, rfl, rfl, by decide +kernel, rfl, by decide +kernel, by decide +kernel⟩
theorem ok_l_number_by {f : Addr} {fd : FuncData} (F : Fun K "_law_number_by" "_law_number_by" s_l_number_by f fd) (T : Txt K mg A)  : FnD P w K mg base 1 f fd ["_law_cell", "_law_least"] m_l_number_by := by
  refine DL.okD (N := n_l_number_by) F sc_l_number_by len_l_number_by (by decide) (fun cdv Ar outer s H E hr => ?_) read_l_number_by
  have hu := hu_of hr
  have hw := hr.units
  have nd := sc_l_number_by.nd
  have tk : Takes (cxOf (L2.CX P w) P w K mg base n_l_number_by "_law_number_by" (defScope s_l_number_by) f cdv Ar outer s H E) (WE0 E) := takes_of rfl rfl rfl rfl
  have hp : PassesOwn (model P w) (Ar.deeper (envOfC "_law_number_by" (defScope s_l_number_by) s.heap.objs.size f cdv)) (envOfC "_law_number_by" (defScope s_l_number_by) s.heap.objs.size f cdv) (cxOf (L2.CX P w) P w K mg base n_l_number_by "_law_number_by" (defScope s_l_number_by) f cdv Ar outer s H E).xe := passes_of (X := cxOf (L2.CX P w) P w K mg base n_l_number_by "_law_number_by" (defScope s_l_number_by) f cdv Ar outer s H E) rfl
  exact (pdss_cons (pds_set (i := 2) nd rfl (Or.inl rfl) (pd_mod (pd_v 0) pd_int))
      (pdss_cons (pds_if (pdt_lt (pd_v 2) pd_int) (pdss_one (pds_ret (pd_add (pd_v 1) (pd_v 2)))) pdss_nil)
      (pdss_cons (pds_if (pdt_eq hw (pd_v 2) pd_int) (pdss_one (pds_ret (pd_add (pd_v 1) (pd_mod (pd_div (pd_v 0) pd_int) pd_int)))) pdss_nil)
      (pdss_cons (pds_if (pdt_eq hw (pd_v 2) pd_int) (pdss_one (pds_ret (pd_pow pd_int pd_int))) pdss_nil)
      (pdss_cons (pds_if (pdt_eq hw (pd_v 2) pd_int) (pdss_one (pds_ret (pd_add (pd_v 1) (pd_mod (pd_div (pd_v 0) pd_int) (pd_sub (pd_add (pd_pow pd_int pd_int) pd_int) (pd_v 1)))))) pdss_nil)
      (pdss_one (pds_ret (pd_add (pd_v 1) (pd_mod (pd_div (pd_v 0) pd_int) (pd_ix hu (pd_lst (pda_cons pd_int (pda_cons pd_int pda_nil))) (pd_sub (pd_v 2) pd_int)))))))))))
abbrev s_l_seats : Stmt := topS 46
abbrev n_l_seats : List Str := ["_law_script", "_law_cell"]
theorem sc_l_seats : FnScope n_l_seats ["_law_script"] (defScope s_l_seats) := ⟨rfl, rfl, rfl, by decide +kernel, rfl, by decide +kernel, by decide +kernel⟩
theorem ok_l_seats {f : Addr} {fd : FuncData} (F : Fun K "_law_seats" "_law_seats" s_l_seats f fd) (T : Txt K mg A) (h_l_cell_at : Has P w K mg base "_law_cell_at" ["_law_script", "_law_k"] 1 m_l_cell_at) (h_l_number_by : Has P w K mg base "_law_number_by" ["_law_cell", "_law_least"] 1 m_l_number_by) : FnD P w K mg base 2 f fd ["_law_script"] m_l_seats := by
  refine DL.okD (N := n_l_seats) F sc_l_seats len_l_seats (by decide) (fun cdv Ar outer s H E hr => ?_) read_l_seats
  have hu := hu_of hr
  have hw := hr.units
  have nd := sc_l_seats.nd
  have tk : Takes (cxOf (L2.CX P w) P w K mg base n_l_seats "_law_seats" (defScope s_l_seats) f cdv Ar outer s H E) (WE0 E) := takes_of rfl rfl rfl rfl
  have hp : PassesOwn (model P w) (Ar.deeper (envOfC "_law_seats" (defScope s_l_seats) s.heap.objs.size f cdv)) (envOfC "_law_seats" (defScope s_l_seats) s.heap.objs.size f cdv) (cxOf (L2.CX P w) P w K mg base n_l_seats "_law_seats" (defScope s_l_seats) f cdv Ar outer s H E).xe := passes_of (X := cxOf (L2.CX P w) P w K mg base n_l_seats "_law_seats" (defScope s_l_seats) f cdv Ar outer s H E) rfl
  exact (pdss_cons (pds_set (i := 1) nd rfl (Or.inl rfl) (pd_callH tk h_l_cell_at (hr.mono (by decide)) rfl (pda_cons (pd_v 0) (pda_cons pd_int pda_nil))))
      (pdss_cons (pds_if (pdt_w (pdw_and (pdt_in (pd_mod (pd_callH tk h_l_cell_at (hr.mono (by decide)) rfl (pda_cons (pd_v 0) (pda_cons pd_int pda_nil))) pd_int) (pd_lst (pda_cons pd_int (pda_cons pd_int pda_nil)))) (pdw_and1 (pdt_eq hw (pd_mod (pd_v 1) pd_int) pd_int)))) (pdss_one (pds_ret (pd_add pd_int (pd_mod (pd_div (pd_v 1) pd_int) pd_int)))) pdss_nil)
      (pdss_one (pds_ret (pd_callH tk h_l_number_by (hr.mono (by decide)) rfl (pda_cons (pd_v 1) (pda_cons pd_int pda_nil)))))))
abbrev s_l_patience : Stmt := topS 47
abbrev n_l_patience : List Str := ["_law_script", "_law_cell"]
theorem sc_l_patience : FnScope n_l_patience ["_law_script"] (defScope s_l_patience) := ⟨rfl, rfl, rfl, by decide +kernel, rfl, by decide +kernel, by decide +kernel⟩
theorem ok_l_patience {f : Addr} {fd : FuncData} (F : Fun K "_law_patience" "_law_patience" s_l_patience f fd) (T : Txt K mg A) (h_l_cell_at : Has P w K mg base "_law_cell_at" ["_law_script", "_law_k"] 1 m_l_cell_at) (h_l_number_by : Has P w K mg base "_law_number_by" ["_law_cell", "_law_least"] 1 m_l_number_by) : FnD P w K mg base 2 f fd ["_law_script"] m_l_patience := by
  refine DL.okD (N := n_l_patience) F sc_l_patience len_l_patience (by decide) (fun cdv Ar outer s H E hr => ?_) read_l_patience
  have hu := hu_of hr
  have hw := hr.units
  have nd := sc_l_patience.nd
  have tk : Takes (cxOf (L2.CX P w) P w K mg base n_l_patience "_law_patience" (defScope s_l_patience) f cdv Ar outer s H E) (WE0 E) := takes_of rfl rfl rfl rfl
  have hp : PassesOwn (model P w) (Ar.deeper (envOfC "_law_patience" (defScope s_l_patience) s.heap.objs.size f cdv)) (envOfC "_law_patience" (defScope s_l_patience) s.heap.objs.size f cdv) (cxOf (L2.CX P w) P w K mg base n_l_patience "_law_patience" (defScope s_l_patience) f cdv Ar outer s H E).xe := passes_of (X := cxOf (L2.CX P w) P w K mg base n_l_patience "_law_patience" (defScope s_l_patience) f cdv Ar outer s H E) rfl
  exact (pdss_cons (pds_set (i := 1) nd rfl (Or.inl rfl) (pd_callH tk h_l_cell_at (hr.mono (by decide)) rfl (pda_cons (pd_v 0) (pda_cons pd_int pda_nil))))
      (pdss_cons (pds_if (pdt_w (pdw_and (pdt_eq hw (pd_mod (pd_callH tk h_l_cell_at (hr.mono (by decide)) rfl (pda_cons (pd_v 0) (pda_cons pd_int pda_nil))) pd_int) pd_int) (pdw_and1 (pdt_eq hw (pd_mod (pd_v 1) pd_int) pd_int)))) (pdss_one (pds_ret (pd_mod (pd_div (pd_v 1) pd_int) pd_int))) pdss_nil)
      (pdss_one (pds_ret (pd_callH tk h_l_number_by (hr.mono (by decide)) rfl (pda_cons (pd_v 1) (pda_cons pd_int pda_nil)))))))
abbrev s_l_people : Stmt := topS 37
abbrev n_l_people : List Str := ["_law_cell", "_law_many", "_law_some", "_law_head", "_law_rest", "_law_k", "_law_way", "_law_left", "_law_right"]
theorem sc_l_people : FnScope n_l_people ["_law_cell", "_law_many"] (defScope s_l_people) := ⟨rfl, rfl, rfl, by decide +kernel, rfl, by decide +kernel, by decide +kernel⟩
theorem ok_l_people {f : Addr} {fd : FuncData} (F : Fun K "_law_people" "_law_people" s_l_people f fd) (T : Txt K mg A)  : FnD P w K mg base 1 f fd ["_law_cell", "_law_many"] m_l_people := by
  refine DL.okD (N := n_l_people) F sc_l_people len_l_people (by decide) (fun cdv Ar outer s H E hr => ?_) read_l_people
  have hu := hu_of hr
  have hw := hr.units
  have nd := sc_l_people.nd
  have tk : Takes (cxOf (L2.CX P w) P w K mg base n_l_people "_law_people" (defScope s_l_people) f cdv Ar outer s H E) (WE0 E) := takes_of rfl rfl rfl rfl
  have hp : PassesOwn (model P w) (Ar.deeper (envOfC "_law_people" (defScope s_l_people) s.heap.objs.size f cdv)) (envOfC "_law_people" (defScope s_l_people) s.heap.objs.size f cdv) (cxOf (L2.CX P w) P w K mg base n_l_people "_law_people" (defScope s_l_people) f cdv Ar outer s H E).xe := passes_of (X := cxOf (L2.CX P w) P w K mg base n_l_people "_law_people" (defScope s_l_people) f cdv Ar outer s H E) rfl
  exact (pdss_cons (pds_set (i := 2) nd rfl (Or.inr rfl) (pd_str (by decide +kernel)))
      (pdss_cons (pds_set (i := 3) nd rfl (Or.inr rfl) (pd_str (by decide +kernel)))
      (pdss_cons (pds_set (i := 4) nd rfl (Or.inl rfl) (pd_div (pd_v 0) pd_int))
      (pdss_cons (pds_for hp rfl (pdi_range1 rfl T.b_range (pda_cons pd_int pda_nil)) (pdg_name (i := 5) nd rfl (Or.inl rfl)) (pdss_cons (pds_set (i := 3) nd rfl (Or.inr rfl) (pd_add (pd_v 3) (pd_ix hu (pd_v 2) (pd_mod (pd_v 4) pd_int))))
      (pdss_one (pds_set (i := 4) nd rfl (Or.inl rfl) (pd_div (pd_v 4) pd_int)))))
      (pdss_cons (pds_set (i := 6) nd rfl (Or.inl rfl) (pd_mod (pd_v 0) pd_int))
      (pdss_cons (pds_if (pdt_w (pdw_and (pdt_eq hw (pd_v 6) pd_int) (pdw_and1 (pdt_lt (pd_v 1) pd_int)))) (pdss_one (pds_ret (pd_lc rfl nd (pdi_range1 rfl T.b_range (pda_cons (pd_v 1) pda_nil)) (blkOk_by (own := [("_law_k", 5)]) (N := n_l_people) (sc := defScope s_l_people) (by decide +kernel)) (fun _ _ _ _ _ => pg_name (i := 5) nd rfl (Or.inl rfl)) (fun _ _ _ _ _ => pdts_nil) (fun _ _ _ _ _ => (pd_slice (pd_v 3) pdo_none (pdo_some (pd_add (pd_v 5) pd_int))))))) pdss_nil)
      (pdss_cons (pds_if (pdt_w (pdw_and (pdt_eq hw (pd_v 6) pd_int) (pdw_and1 (pdt_lt (pd_v 1) pd_int)))) (pdss_one (pds_ret (pd_lc rfl nd (pdi_range1 rfl T.b_range (pda_cons (pd_v 1) pda_nil)) (blkOk_by (own := [("_law_k", 5)]) (N := n_l_people) (sc := defScope s_l_people) (by decide +kernel)) (fun _ _ _ _ _ => pg_name (i := 5) nd rfl (Or.inl rfl)) (fun _ _ _ _ _ => pdts_nil) (fun _ _ _ _ _ => (pd_slice (pd_v 3) (pdo_some (pd_sub pd_int (pd_v 5))) pdo_none))))) pdss_nil)
      (pdss_cons (pds_set (i := 3) nd rfl (Or.inr rfl) (pd_slice (pd_v 3) pdo_none (pdo_some (pd_mod (pd_div (pd_v 0) pd_int) pd_int))))
      (pdss_cons (pds_if (pdt_w (pdw_and (pdt_lt (pd_v 6) pd_int) (pdw_and1 (pdt_lt (pd_v 1) pd_int)))) (pdss_cons (pds_set (i := 7) nd rfl (Or.inr rfl) (pd_slice (pd_v 3) pdo_none (pdo_some (pd_mod (pd_div (pd_v 0) pd_int) (pd_add (pd_callB call_len l_len rfl T.b_len (by decide +kernel) (pda_cons (pd_v 3) pda_nil)) pd_int)))))
      (pdss_cons (pds_set (i := 8) nd rfl (Or.inr rfl) (pd_slice (pd_v 3) (pdo_some (pd_callB call_len l_len rfl T.b_len (by decide +kernel) (pda_cons (pd_v 7) pda_nil))) pdo_none))
      (pdss_one (pds_ret (pd_lc rfl nd (pdi_range1 rfl T.b_range (pda_cons (pd_v 1) pda_nil)) (blkOk_by (own := [("_law_k", 5)]) (N := n_l_people) (sc := defScope s_l_people) (by decide +kernel)) (fun _ _ _ _ _ => pg_name (i := 5) nd rfl (Or.inl rfl)) (fun _ _ _ _ _ => pdts_nil) (fun _ _ _ _ _ => (pd_add (pd_add (pd_v 7) (pd_ix hu (pd_v 2) (pd_mod (pd_add (pd_div (pd_v 0) pd_int) (pd_mul pd_int (pd_v 5))) pd_int))) (pd_v 8)))))))) pdss_nil)
      (pdss_cons (pds_set (i := 3) nd rfl (Or.inr rfl) (pd_slice (pd_v 3) pdo_none (pdo_some (pd_sub pd_int (pd_callTy call_int1 l_int1 rfl T.b_int (by decide +kernel) (pda_cons (pd_gt (pd_v 1) pd_int) pda_nil))))))
      (pdss_one (pds_ret (pd_lc rfl nd (pdi_range1 rfl T.b_range (pda_cons (pd_v 1) pda_nil)) (blkOk_by (own := [("_law_k", 5)]) (N := n_l_people) (sc := defScope s_l_people) (by decide +kernel)) (fun _ _ _ _ _ => pg_name (i := 5) nd rfl (Or.inl rfl)) (fun _ _ _ _ _ => pdts_nil) (fun _ _ _ _ _ => (pd_add (pd_v 3) (pd_callTy call_str_int l_str1 rfl T.b_str (by decide +kernel) (pda_cons (pd_v 5) pda_nil)))))))))))))))))
abbrev s_l_names : Stmt := topS 49
abbrev n_l_names : List Str := ["_law_script", "_law_many", "_law_way", "_law_people_here"]
theorem sc_l_names : FnScope n_l_names ["_law_script", "_law_many"] (defScope s_l_names) := ⟨rfl, rfl, rfl, by decide +kernel, rfl, by decide +kernel, by decide +kernel⟩
theorem ok_l_names {f : Addr} {fd : FuncData} (F : Fun K "_law_names" "_law_names" s_l_names f fd) (T : Txt K mg A) (h_l_cell_at : Has P w K mg base "_law_cell_at" ["_law_script", "_law_k"] 1 m_l_cell_at) (h_l_people : Has P w K mg base "_law_people" ["_law_cell", "_law_many"] 1 m_l_people) : FnD P w K mg base 2 f fd ["_law_script", "_law_many"] m_l_names := by
  refine DL.okD (N := n_l_names) F sc_l_names len_l_names (by decide) (fun cdv Ar outer s H E hr => ?_) read_l_names
  have hu := hu_of hr
  have hw := hr.units
  have nd := sc_l_names.nd
  have tk : Takes (cxOf (L2.CX P w) P w K mg base n_l_names "_law_names" (defScope s_l_names) f cdv Ar outer s H E) (WE0 E) := takes_of rfl rfl rfl rfl
  have hp : PassesOwn (model P w) (Ar.deeper (envOfC "_law_names" (defScope s_l_names) s.heap.objs.size f cdv)) (envOfC "_law_names" (defScope s_l_names) s.heap.objs.size f cdv) (cxOf (L2.CX P w) P w K mg base n_l_names "_law_names" (defScope s_l_names) f cdv Ar outer s H E).xe := passes_of (X := cxOf (L2.CX P w) P w K mg base n_l_names "_law_names" (defScope s_l_names) f cdv Ar outer s H E) rfl
  exact (pdss_cons (pds_set (i := 2) nd rfl (Or.inl rfl) (pd_mod (pd_callH tk h_l_cell_at (hr.mono (by decide)) rfl (pda_cons (pd_v 0) (pda_cons pd_int pda_nil))) pd_int))
      (pdss_cons (pds_set (i := 3) nd rfl (Or.inl rfl) (pd_callH tk h_l_people (hr.mono (by decide)) rfl (pda_cons (pd_callH tk h_l_cell_at (hr.mono (by decide)) rfl (pda_cons (pd_v 0) (pda_cons pd_int pda_nil))) (pda_cons pd_int pda_nil))))
      (pdss_cons (pds_if (pdt_w (pdw_or (pdt_eq hw (pd_v 2) pd_int) (pdw_or1 (pdt_eq hw (pd_v 2) pd_int)))) (pdss_one (pds_ret (pd_slice (pd_v 3) pdo_none (pdo_some (pd_add (pd_add (pd_v 1) pd_int) (pd_mul (pd_mul pd_int (pd_v 1)) (pd_callTy call_int1 l_int1 rfl T.b_int (by decide +kernel) (pda_cons (pd_eq hw (pd_v 2) pd_int) pda_nil)))))))) pdss_nil)
      (pdss_cons (pds_if (pdt_eq hw (pd_v 2) pd_int) (pdss_one (pds_ret (pd_slice (pd_v 3) (pdo_some (pd_sub pd_int (pd_v 1))) pdo_none))) pdss_nil)
      (pdss_one (pds_ret (pd_callH tk h_l_people (hr.mono (by decide)) rfl (pda_cons (pd_callH tk h_l_cell_at (hr.mono (by decide)) rfl (pda_cons (pd_v 0) (pda_cons pd_int pda_nil))) (pda_cons (pd_v 1) pda_nil)))))))))
abbrev s_l_wish_by : Stmt := topS 38
abbrev n_l_wish_by : List Str := ["_law_cell"]
theorem sc_l_wish_by : FnScope n_l_wish_by ["_law_cell"] (defScope s_l_wish_by) := ⟨rfl, rfl, rfl, by decide +kernel, rfl, by decide +kernel, by decide +kernel⟩
theorem ok_l_wish_by {f : Addr} {fd : FuncData} (F : Fun K "_law_wish_by" "_law_wish_by" s_l_wish_by f fd) (T : Txt K mg A)  : FnD P w K mg base 1 f fd ["_law_cell"] m_l_wish_by := by
  refine DL.okD (N := n_l_wish_by) F sc_l_wish_by len_l_wish_by (by decide) (fun cdv Ar outer s H E hr => ?_) read_l_wish_by
  have hu := hu_of hr
  have hw := hr.units
  have nd := sc_l_wish_by.nd
  have tk : Takes (cxOf (L2.CX P w) P w K mg base n_l_wish_by "_law_wish_by" (defScope s_l_wish_by) f cdv Ar outer s H E) (WE0 E) := takes_of rfl rfl rfl rfl
  have hp : PassesOwn (model P w) (Ar.deeper (envOfC "_law_wish_by" (defScope s_l_wish_by) s.heap.objs.size f cdv)) (envOfC "_law_wish_by" (defScope s_l_wish_by) s.heap.objs.size f cdv) (cxOf (L2.CX P w) P w K mg base n_l_wish_by "_law_wish_by" (defScope s_l_wish_by) f cdv Ar outer s H E).xe := passes_of (X := cxOf (L2.CX P w) P w K mg base n_l_wish_by "_law_wish_by" (defScope s_l_wish_by) f cdv Ar outer s H E) rfl
  exact (pdss_cons (pds_if (pdt_eq hw (pd_mod (pd_v 0) pd_int) pd_int) (pdss_one (pds_ret (pd_str (by decide +kernel)))) pdss_nil)
      (pdss_one (pds_ret (pd_str (by decide +kernel)))))
abbrev s_l_crowd : Stmt := topS 48
abbrev n_l_crowd : List Str := ["_law_script", "_law_many", "_law_people_here", "_law_way", "_law_large", "_law_size", "_law_k", "_law_one", "_law_deeds"]
theorem sc_l_crowd : FnScope n_l_crowd ["_law_script", "_law_many"] (defScope s_l_crowd) := ⟨rfl, rfl, rfl, by decide +kernel, rfl, by decide +kernel, by decide +kernel⟩
theorem ok_l_crowd {f : Addr} {fd : FuncData} (F : Fun K "_law_crowd" "_law_crowd" s_l_crowd f fd) (T : Txt K mg A) (h_l_people : Has P w K mg base "_law_people" ["_law_cell", "_law_many"] 1 m_l_people) (h_l_cell_at : Has P w K mg base "_law_cell_at" ["_law_script", "_law_k"] 1 m_l_cell_at) (h_l_wish_by : Has P w K mg base "_law_wish_by" ["_law_cell"] 1 m_l_wish_by) : FnD P w K mg base 2 f fd ["_law_script", "_law_many"] m_l_crowd := by
  refine DL.okD (N := n_l_crowd) F sc_l_crowd len_l_crowd (by decide) (fun cdv Ar outer s H E hr => ?_) read_l_crowd
  have hu := hu_of hr
  have hw := hr.units
  have nd := sc_l_crowd.nd
  have tk : Takes (cxOf (L2.CX P w) P w K mg base n_l_crowd "_law_crowd" (defScope s_l_crowd) f cdv Ar outer s H E) (WE0 E) := takes_of rfl rfl rfl rfl
  have hp : PassesOwn (model P w) (Ar.deeper (envOfC "_law_crowd" (defScope s_l_crowd) s.heap.objs.size f cdv)) (envOfC "_law_crowd" (defScope s_l_crowd) s.heap.objs.size f cdv) (cxOf (L2.CX P w) P w K mg base n_l_crowd "_law_crowd" (defScope s_l_crowd) f cdv Ar outer s H E).xe := passes_of (X := cxOf (L2.CX P w) P w K mg base n_l_crowd "_law_crowd" (defScope s_l_crowd) f cdv Ar outer s H E) rfl
  exact (pdss_cons (pds_set (i := 2) nd rfl (Or.inr rfl) (pd_callH tk h_l_people (hr.mono (by decide)) rfl (pda_cons (pd_callH tk h_l_cell_at (hr.mono (by decide)) rfl (pda_cons (pd_v 0) (pda_cons pd_int pda_nil))) (pda_cons pd_int pda_nil))))
      (pdss_cons (pds_set (i := 3) nd rfl (Or.inl rfl) (pd_mod (pd_callH tk h_l_cell_at (hr.mono (by decide)) rfl (pda_cons (pd_v 0) (pda_cons pd_int pda_nil))) pd_int))
      (pdss_cons (pds_set (i := 4) nd rfl (Or.inl rfl) (pd_eq hw (pd_mod (pd_div (pd_callH tk h_l_cell_at (hr.mono (by decide)) rfl (pda_cons (pd_v 0) (pda_cons pd_int pda_nil))) pd_int) pd_int) pd_int))
      (pdss_cons (pds_if (pdt_eq hw (pd_v 3) pd_int) (pdss_cons (pds_set (i := 5) nd rfl (Or.inl rfl) (pd_mul (pd_add pd_int (pd_mul pd_int (pd_callTy call_int1 l_int1 rfl T.b_int (by decide +kernel) (pda_cons (pd_v 4) pda_nil)))) (pd_v 1)))
      (pdss_one (pds_ret (pd_lc rfl nd (pdi_range1 rfl T.b_range (pda_cons (pd_v 5) pda_nil)) (blkOk_by (own := [("_law_k", 6)]) (N := n_l_crowd) (sc := defScope s_l_crowd) (by decide +kernel)) (fun _ _ _ _ _ => pg_name (i := 6) nd rfl (Or.inl rfl)) (fun _ _ _ _ _ => pdts_nil) (fun _ _ _ _ _ => (pd_tup (pda_cons (pd_str (by decide +kernel)) (pda_cons (pd_ix hu (pd_v 2) (pd_v 6)) (pda_cons (pd_callH takes0 h_l_wish_by (hr.mono (by decide)) rfl (pda_cons (pd_div (pd_callH takes0 h_l_cell_at (hr.mono (by decide)) rfl (pda_cons (pd_v 0) (pda_cons pd_int pda_nil))) (pd_add (pd_v 6) pd_int)) pda_nil)) pda_nil))))))))) pdss_nil)
      (pdss_cons (pds_if (pdt_w (pdw_and (pdt_eq hw (pd_v 3) pd_int) (pdw_and1 (pdt_val (pd_v 4))))) (pdss_one (pds_ret (pd_lc rfl nd (pdi_any (pd_v 2)) (blkOk_by (own := [("_law_one", 7)]) (N := n_l_crowd) (sc := defScope s_l_crowd) (by decide +kernel)) (fun _ _ _ _ _ => pg_name (i := 7) nd rfl (Or.inl rfl)) (fun _ _ _ _ _ => pdts_nil) (fun _ _ _ _ _ => (pd_tup (pda_cons (pd_str (by decide +kernel)) (pda_cons (pd_v 7) (pda_cons (pd_str (by decide +kernel)) pda_nil)))))))) pdss_nil)
      (pdss_cons (pds_set (i := 8) nd rfl (Or.inl rfl) (pd_lstM pda_nil))
      (pdss_cons (pds_if (pdt_eq hw (pd_v 3) pd_int) (pdss_cons (pds_set (i := 8) nd rfl (Or.inl rfl) (pd_lstM (pda_cons (pd_tup (pda_cons (pd_str (by decide +kernel)) (pda_cons (pd_ix hu (pd_v 2) pd_int) (pda_cons (pd_str (by decide +kernel)) pda_nil)))) (pda_cons (pd_tup (pda_cons (pd_str (by decide +kernel)) (pda_cons (pd_ix hu (pd_v 2) pd_int) (pda_cons (pd_str (by decide +kernel)) pda_nil)))) pda_nil))))
      (pdss_one (pds_for hp rfl (pdi_range1 rfl T.b_range (pda_cons (pd_mod (pd_callH tk h_l_cell_at (hr.mono (by decide)) rfl (pda_cons (pd_v 0) (pda_cons pd_int pda_nil))) (pd_add pd_int (pd_mul pd_int (pd_callTy call_int1 l_int1 rfl T.b_int (by decide +kernel) (pda_cons (pd_v 4) pda_nil))))) pda_nil)) (pdg_name (i := 6) nd rfl (Or.inl rfl)) (pdss_cons (pds_expr (pd_bmL PySem.F.plainAttrs_list PySem.F.slot_list_append PySem.F.type_list_append mt_append l_append (pd_v 8) (pda_cons (pd_tup (pda_cons (pd_str (by decide +kernel)) (pda_cons (pd_ix hu (pd_v 2) (pd_add pd_int (pd_mod (pd_v 6) pd_int))) (pda_cons (pd_str (by decide +kernel)) pda_nil)))) pda_nil)))
      (pdss_one (pds_expr (pd_bmL PySem.F.plainAttrs_list PySem.F.slot_list_append PySem.F.type_list_append mt_append l_append (pd_v 8) (pda_cons (pd_tup (pda_cons (pd_str (by decide +kernel)) (pda_cons (pd_ix hu (pd_v 2) (pd_add pd_int (pd_mod (pd_v 6) pd_int))) (pda_cons (pd_str (by decide +kernel)) pda_nil)))) pda_nil)))))))) pdss_nil)
      (pdss_one (pds_ret (pd_frz (pd_v 8)))))))))))
abbrev s_l_fresh : Stmt := topS 44
abbrev n_l_fresh : List Str := []
theorem sc_l_fresh : FnScope n_l_fresh [] (defScope s_l_fresh) := ⟨rfl, rfl, rfl, by decide +kernel, rfl, by decide +kernel, by decide +kernel⟩
theorem ok_l_fresh {f : Addr} {fd : FuncData} (F : Fun K "_law_fresh" "_law_fresh" s_l_fresh f fd) (T : Txt K mg A)  : FnD P w K mg base 1 f fd [] m_l_fresh := by
  refine DL.okD (N := n_l_fresh) F sc_l_fresh len_l_fresh (by decide) (fun cdv Ar outer s H E hr => ?_) read_l_fresh
  have hu := hu_of hr
  have hw := hr.units
  have nd := sc_l_fresh.nd
  have tk : Takes (cxOf (L2.CX P w) P w K mg base n_l_fresh "_law_fresh" (defScope s_l_fresh) f cdv Ar outer s H E) (WE0 E) := takes_of rfl rfl rfl rfl
  have hp : PassesOwn (model P w) (Ar.deeper (envOfC "_law_fresh" (defScope s_l_fresh) s.heap.objs.size f cdv)) (envOfC "_law_fresh" (defScope s_l_fresh) s.heap.objs.size f cdv) (cxOf (L2.CX P w) P w K mg base n_l_fresh "_law_fresh" (defScope s_l_fresh) f cdv Ar outer s H E).xe := passes_of (X := cxOf (L2.CX P w) P w K mg base n_l_fresh "_law_fresh" (defScope s_l_fresh) f cdv Ar outer s H E) rfl
  exact (pdss_one (pds_ret (pd_frz (pd_disp (pdp_cons (pd_lst pda_nil) (pdp_cons (pd_lst pda_nil) (pdp_cons pd_non (pdp_cons pd_non pdp_nil))))))))
abbrev s_l_deed_by : Stmt := topS 39
abbrev n_l_deed_by : List Str := ["_law_cell", "_law_people_here", "_law_inside_here", "_law_waits", "_law_who", "_law_way", "_law_wish"]
theorem sc_l_deed_by : FnScope n_l_deed_by ["_law_cell", "_law_people_here", "_law_inside_here", "_law_waits"] (defScope s_l_deed_by) := ⟨rfl, rfl, rfl, by decide +kernel, rfl, by decide +kernel, by decide +kernel⟩
theorem ok_l_deed_by {f : Addr} {fd : FuncData} (F : Fun K "_law_deed_by" "_law_deed_by" s_l_deed_by f fd) (T : Txt K mg A) (h_l_wish_by : Has P w K mg base "_law_wish_by" ["_law_cell"] 1 m_l_wish_by) : FnD P w K mg base 2 f fd ["_law_cell", "_law_people_here", "_law_inside_here", "_law_waits"] m_l_deed_by := by
  refine DL.okD (N := n_l_deed_by) F sc_l_deed_by len_l_deed_by (by decide) (fun cdv Ar outer s H E hr => ?_) read_l_deed_by
  have hu := hu_of hr
  have hw := hr.units
  have nd := sc_l_deed_by.nd
  have tk : Takes (cxOf (L2.CX P w) P w K mg base n_l_deed_by "_law_deed_by" (defScope s_l_deed_by) f cdv Ar outer s H E) (WE0 E) := takes_of rfl rfl rfl rfl
  have hp : PassesOwn (model P w) (Ar.deeper (envOfC "_law_deed_by" (defScope s_l_deed_by) s.heap.objs.size f cdv)) (envOfC "_law_deed_by" (defScope s_l_deed_by) s.heap.objs.size f cdv) (cxOf (L2.CX P w) P w K mg base n_l_deed_by "_law_deed_by" (defScope s_l_deed_by) f cdv Ar outer s H E).xe := passes_of (X := cxOf (L2.CX P w) P w K mg base n_l_deed_by "_law_deed_by" (defScope s_l_deed_by) f cdv Ar outer s H E) rfl
  exact (pdss_cons (pds_set (i := 4) nd rfl (Or.inl rfl) (pd_ix hu (pd_v 1) (pd_mod (pd_div (pd_v 0) pd_int) (pd_callB call_len l_len rfl T.b_len (by decide +kernel) (pda_cons (pd_v 1) pda_nil)))))
      (pdss_cons (pds_set (i := 5) nd rfl (Or.inl rfl) (pd_mod (pd_v 0) pd_int))
      (pdss_cons (pds_set (i := 6) nd rfl (Or.inl rfl) (pd_callH tk h_l_wish_by (hr.mono (by decide)) rfl (pda_cons (pd_div (pd_v 0) (pd_mul pd_int (pd_callB call_len l_len rfl T.b_len (by decide +kernel) (pda_cons (pd_v 1) pda_nil)))) pda_nil)))
      (pdss_cons (pds_if (pdt_in (pd_v 4) (pd_v 2)) (pdss_one (pds_ret (pd_tup (pda_cons (pd_ix hu (pd_lst (pda_cons (pd_str (by decide +kernel)) (pda_cons (pd_str (by decide +kernel)) (pda_cons (pd_str (by decide +kernel)) (pda_cons (pd_str (by decide +kernel)) (pda_cons (pd_str (by decide +kernel)) (pda_cons (pd_str (by decide +kernel)) (pda_cons (pd_str (by decide +kernel)) (pda_cons (pd_str (by decide +kernel)) pda_nil))))))))) (pd_v 5)) (pda_cons (pd_v 4) (pda_cons (pd_v 6) pda_nil)))))) pdss_nil)
      (pdss_cons (pds_if (pdt_notIn (pd_v 4) (pd_v 3)) (pdss_one (pds_ret (pd_tup (pda_cons (pd_ix hu (pd_lst (pda_cons (pd_str (by decide +kernel)) (pda_cons (pd_str (by decide +kernel)) (pda_cons (pd_str (by decide +kernel)) (pda_cons (pd_str (by decide +kernel)) (pda_cons (pd_str (by decide +kernel)) (pda_cons (pd_str (by decide +kernel)) (pda_cons (pd_str (by decide +kernel)) (pda_cons (pd_str (by decide +kernel)) pda_nil))))))))) (pd_v 5)) (pda_cons (pd_v 4) (pda_cons (pd_v 6) pda_nil)))))) pdss_nil)
      (pdss_cons (pds_if (pdt_w (pdw_and (pdt_lt (pd_v 5) pd_int) (pdw_and1 (pdt_ne hw (pd_v 2) (pd_lst pda_nil))))) (pdss_one (pds_ret (pd_tup (pda_cons (pd_str (by decide +kernel)) (pda_cons (pd_ix hu (pd_v 2) (pd_mod (pd_div (pd_v 0) pd_int) (pd_callB call_len l_len rfl T.b_len (by decide +kernel) (pda_cons (pd_v 2) pda_nil)))) (pda_cons (pd_v 6) pda_nil)))))) pdss_nil)
      (pdss_one (pds_ret (pd_tup (pda_cons (pd_ix hu (pd_lst (pda_cons (pd_str (by decide +kernel)) (pda_cons (pd_str (by decide +kernel)) (pda_cons (pd_str (by decide +kernel)) (pda_cons (pd_str (by decide +kernel)) (pda_cons (pd_str (by decide +kernel)) (pda_cons (pd_str (by decide +kernel)) (pda_cons (pd_str (by decide +kernel)) (pda_cons (pd_str (by decide +kernel)) pda_nil))))))))) (pd_v 5)) (pda_cons (pd_v 4) (pda_cons (pd_v 6) pda_nil))))))))))))
abbrev s_l_inside : Stmt := topS 45
abbrev n_l_inside : List Str := ["_law_now"]
theorem sc_l_inside : FnScope n_l_inside ["_law_now"] (defScope s_l_inside) := ⟨rfl, rfl, rfl, by decide +kernel, rfl, by decide +kernel, by decide +kernel⟩
theorem ok_l_inside {f : Addr} {fd : FuncData} (F : Fun K "_law_inside" "_law_inside" s_l_inside f fd) (T : Txt K mg A)  : FnD P w K mg base 1 f fd ["_law_now"] m_l_inside := by
  refine DL.okD (N := n_l_inside) F sc_l_inside len_l_inside (by decide) (fun cdv Ar outer s H E hr => ?_) read_l_inside
  have hu := hu_of hr
  have hw := hr.units
  have nd := sc_l_inside.nd
  have tk : Takes (cxOf (L2.CX P w) P w K mg base n_l_inside "_law_inside" (defScope s_l_inside) f cdv Ar outer s H E) (WE0 E) := takes_of rfl rfl rfl rfl
  have hp : PassesOwn (model P w) (Ar.deeper (envOfC "_law_inside" (defScope s_l_inside) s.heap.objs.size f cdv)) (envOfC "_law_inside" (defScope s_l_inside) s.heap.objs.size f cdv) (cxOf (L2.CX P w) P w K mg base n_l_inside "_law_inside" (defScope s_l_inside) f cdv Ar outer s H E).xe := passes_of (X := cxOf (L2.CX P w) P w K mg base n_l_inside "_law_inside" (defScope s_l_inside) f cdv Ar outer s H E) rfl
  exact (pdss_cons (pds_if (pdt_isN (pd_ix hu (pd_v 0) (pd_str (by decide +kernel)))) (pdss_one (pds_ret (pd_ix hu (pd_v 0) (pd_str (by decide +kernel))))) pdss_nil)
      (pdss_one (pds_ret (pd_lst (pda_cons (pd_ix hu (pd_v 0) (pd_str (by decide +kernel))) pda_nil)))))
abbrev s_l_known : Stmt := topS 40
abbrev n_l_known : List Str := ["_law_now", "_law_who", "_law_one"]
theorem sc_l_known : FnScope n_l_known ["_law_now", "_law_who"] (defScope s_l_known) := ⟨rfl, rfl, rfl, by decide +kernel, rfl, by decide +kernel, by decide +kernel⟩
theorem ok_l_known {f : Addr} {fd : FuncData} (F : Fun K "_law_known" "_law_known" s_l_known f fd) (T : Txt K mg A)  : FnD P w K mg base 1 f fd ["_law_now", "_law_who"] m_l_known := by
  refine DL.okD (N := n_l_known) F sc_l_known len_l_known (by decide) (fun cdv Ar outer s H E hr => ?_) read_l_known
  have hu := hu_of hr
  have hw := hr.units
  have nd := sc_l_known.nd
  have tk : Takes (cxOf (L2.CX P w) P w K mg base n_l_known "_law_known" (defScope s_l_known) f cdv Ar outer s H E) (WE0 E) := takes_of rfl rfl rfl rfl
  have hp : PassesOwn (model P w) (Ar.deeper (envOfC "_law_known" (defScope s_l_known) s.heap.objs.size f cdv)) (envOfC "_law_known" (defScope s_l_known) s.heap.objs.size f cdv) (cxOf (L2.CX P w) P w K mg base n_l_known "_law_known" (defScope s_l_known) f cdv Ar outer s H E).xe := passes_of (X := cxOf (L2.CX P w) P w K mg base n_l_known "_law_known" (defScope s_l_known) f cdv Ar outer s H E) rfl
  exact (pdss_one (pds_ret (pd_or (pd_in (pd_v 1) (pd_ix hu (pd_v 0) (pd_str (by decide +kernel)))) (pd_or (pd_eq hw (pd_ix hu (pd_v 0) (pd_str (by decide +kernel))) (pd_v 1)) (pd_one (pd_in (pd_v 1) (pd_lc rfl nd (pdi_any (pd_ix hu (pd_v 0) (pd_str (by decide +kernel)))) (blkOk_by (own := [("_law_one", 2)]) (N := n_l_known) (sc := defScope s_l_known) (by decide +kernel)) (fun _ _ _ _ _ => pg_name (i := 2) nd rfl (Or.inl rfl)) (fun _ _ _ _ _ => pdts_nil) (fun _ _ _ _ _ => (pd_ix hu (pd_v 2) pd_int)))))))))
abbrev s_l_refused : Stmt := topS 41
abbrev n_l_refused : List Str := ["_law_now", "_law_deed"]
theorem sc_l_refused : FnScope n_l_refused ["_law_now", "_law_deed"] (defScope s_l_refused) := ⟨rfl, rfl, rfl, by decide +kernel, rfl, by decide +kernel, by decide +kernel⟩
theorem ok_l_refused {f : Addr} {fd : FuncData} (F : Fun K "_law_refused" "_law_refused" s_l_refused f fd) (T : Txt K mg A) (h_l_known : Has P w K mg base "_law_known" ["_law_now", "_law_who"] 1 m_l_known) : FnD P w K mg base 2 f fd ["_law_now", "_law_deed"] m_l_refused := by
  refine DL.okD (N := n_l_refused) F sc_l_refused len_l_refused (by decide) (fun cdv Ar outer s H E hr => ?_) read_l_refused
  have hu := hu_of hr
  have hw := hr.units
  have nd := sc_l_refused.nd
  have tk : Takes (cxOf (L2.CX P w) P w K mg base n_l_refused "_law_refused" (defScope s_l_refused) f cdv Ar outer s H E) (WE0 E) := takes_of rfl rfl rfl rfl
  have hp : PassesOwn (model P w) (Ar.deeper (envOfC "_law_refused" (defScope s_l_refused) s.heap.objs.size f cdv)) (envOfC "_law_refused" (defScope s_l_refused) s.heap.objs.size f cdv) (cxOf (L2.CX P w) P w K mg base n_l_refused "_law_refused" (defScope s_l_refused) f cdv Ar outer s H E).xe := passes_of (X := cxOf (L2.CX P w) P w K mg base n_l_refused "_law_refused" (defScope s_l_refused) f cdv Ar outer s H E) rfl
  exact (pdss_cons (pds_if (pdt_eq hw (pd_ix hu (pd_v 1) pd_int) (pd_str (by decide +kernel))) (pdss_one (pds_ret (pd_callH tk h_l_known (hr.mono (by decide)) rfl (pda_cons (pd_v 0) (pda_cons (pd_ix hu (pd_v 1) pd_int) pda_nil))))) pdss_nil)
      (pdss_cons (pds_if (pdt_eq hw (pd_ix hu (pd_v 1) pd_int) (pd_str (by decide +kernel))) (pdss_one (pds_ret (pd_not (pd_callH tk h_l_known (hr.mono (by decide)) rfl (pda_cons (pd_v 0) (pda_cons (pd_ix hu (pd_v 1) pd_int) pda_nil)))))) pdss_nil)
      (pdss_cons (pds_if (pdt_eq hw (pd_ix hu (pd_v 1) pd_int) (pd_str (by decide +kernel))) (pdss_one (pds_ret (pd_or (pd_notIn (pd_ix hu (pd_v 1) pd_int) (pd_ix hu (pd_v 0) (pd_str (by decide +kernel)))) (pd_one (pd_notN (pd_ix hu (pd_v 0) (pd_str (by decide +kernel)))))))) pdss_nil)
      (pdss_one (pds_ret (pd_or (pd_isN (pd_ix hu (pd_v 0) (pd_str (by decide +kernel)))) (pd_one (pd_ne hw (pd_ix hu (pd_v 0) (pd_str (by decide +kernel))) (pd_ix hu (pd_v 1) pd_int)))))))))
abbrev s_l_deed_done : Stmt := topS 42
abbrev n_l_deed_done : List Str := ["_law_now", "_law_deed", "_law_new", "_law_who", "_law_one"]
theorem sc_l_deed_done : FnScope n_l_deed_done ["_law_now", "_law_deed"] (defScope s_l_deed_done) := ⟨rfl, rfl, rfl, by decide +kernel, rfl, by decide +kernel, by decide +kernel⟩
theorem ok_l_deed_done {f : Addr} {fd : FuncData} (F : Fun K "_law_deed_done" "_law_deed_done" s_l_deed_done f fd) (T : Txt K mg A)  : FnD P w K mg base 1 f fd ["_law_now", "_law_deed"] m_l_deed_done := by
  refine DL.okD (N := n_l_deed_done) F sc_l_deed_done len_l_deed_done (by decide) (fun cdv Ar outer s H E hr => ?_) read_l_deed_done
  have hu := hu_of hr
  have hw := hr.units
  have nd := sc_l_deed_done.nd
  have tk : Takes (cxOf (L2.CX P w) P w K mg base n_l_deed_done "_law_deed_done" (defScope s_l_deed_done) f cdv Ar outer s H E) (WE0 E) := takes_of rfl rfl rfl rfl
  have hp : PassesOwn (model P w) (Ar.deeper (envOfC "_law_deed_done" (defScope s_l_deed_done) s.heap.objs.size f cdv)) (envOfC "_law_deed_done" (defScope s_l_deed_done) s.heap.objs.size f cdv) (cxOf (L2.CX P w) P w K mg base n_l_deed_done "_law_deed_done" (defScope s_l_deed_done) f cdv Ar outer s H E).xe := passes_of (X := cxOf (L2.CX P w) P w K mg base n_l_deed_done "_law_deed_done" (defScope s_l_deed_done) f cdv Ar outer s H E) rfl
  exact (pdss_cons (pds_set (i := 2) nd rfl (Or.inl rfl) (pd_callTy call_dictD l_dictM rfl T.b_dict (by decide +kernel) (pda_cons (pd_v 0) pda_nil)))
      (pdss_cons (pds_set (i := 3) nd rfl (Or.inr rfl) (pd_ix hu (pd_v 1) pd_int))
      (pdss_cons (pds_if (pdt_eq hw (pd_ix hu (pd_v 1) pd_int) (pd_str (by decide +kernel))) (pdss_one (pds_put hu (pd_v 2) (pd_str (by decide +kernel)) (pd_add (pd_ix hu (pd_v 0) (pd_str (by decide +kernel))) (pd_lst (pda_cons (pd_tup (pda_cons (pd_v 3) (pda_cons (pd_ix hu (pd_v 1) pd_int) (pda_cons pd_int pda_nil)))) pda_nil))))) (pdss_one (pds_if (pdt_eq hw (pd_ix hu (pd_v 1) pd_int) (pd_str (by decide +kernel))) (pdss_one (pds_put hu (pd_v 2) (pd_str (by decide +kernel)) (pd_v 3))) (pdss_one (pds_if (pdt_eq hw (pd_ix hu (pd_v 1) pd_int) (pd_str (by decide +kernel))) (pdss_cons (pds_put hu (pd_v 2) (pd_str (by decide +kernel)) pd_non)
      (pdss_one (pds_put hu (pd_v 2) (pd_str (by decide +kernel)) (pd_lst (pda_cons (pd_v 3) pda_nil))))) (pdss_cons (pds_put hu (pd_v 2) (pd_str (by decide +kernel)) (pd_lc rfl nd (pdi_any (pd_ix hu (pd_v 0) (pd_str (by decide +kernel)))) (blkOk_by (own := [("_law_one", 4)]) (N := n_l_deed_done) (sc := defScope s_l_deed_done) (by decide +kernel)) (fun _ _ _ _ _ => pg_name (i := 4) nd rfl (Or.inl rfl)) (fun _ _ _ _ _ => (pdts_one (pdt_ne hw (pd_ix hu (pd_v 4) pd_int) (pd_v 3)))) (fun _ _ _ _ _ => (pd_v 4))))
      (pdss_cons (pds_put hu (pd_v 2) (pd_str (by decide +kernel)) (pd_lc rfl nd (pdi_any (pd_ix hu (pd_v 0) (pd_str (by decide +kernel)))) (blkOk_by (own := [("_law_one", 4)]) (N := n_l_deed_done) (sc := defScope s_l_deed_done) (by decide +kernel)) (fun _ _ _ _ _ => pg_name (i := 4) nd rfl (Or.inl rfl)) (fun _ _ _ _ _ => (pdts_one (pdt_ne hw (pd_v 4) (pd_v 3)))) (fun _ _ _ _ _ => (pd_v 4))))
      (pdss_cons (pds_if (pdt_eq hw (pd_ix hu (pd_v 0) (pd_str (by decide +kernel))) (pd_v 3)) (pdss_one (pds_put hu (pd_v 2) (pd_str (by decide +kernel)) pd_non)) pdss_nil)
      (pdss_one (pds_if (pdt_eq hw (pd_ix hu (pd_v 0) (pd_str (by decide +kernel))) (pd_v 3)) (pdss_one (pds_put hu (pd_v 2) (pd_str (by decide +kernel)) pd_non)) pdss_nil))))))))))
      (pdss_one (pds_ret (pd_frz (pd_v 2)))))))
abbrev s_l_row : Stmt := topS 52
abbrev n_l_row : List Str := ["_law_deed"]
theorem sc_l_row : FnScope n_l_row ["_law_deed"] (defScope s_l_row) := ⟨rfl, rfl, rfl, by decide +kernel, rfl, by decide +kernel, by decide +kernel⟩
theorem ok_l_row {f : Addr} {fd : FuncData} (F : Fun K "_law_row" "_law_row" s_l_row f fd) (T : Txt K mg A)  : FnD P w K mg base 1 f fd ["_law_deed"] m_l_row := by
  refine DL.okD (N := n_l_row) F sc_l_row len_l_row (by decide) (fun cdv Ar outer s H E hr => ?_) read_l_row
  have hu := hu_of hr
  have hw := hr.units
  have nd := sc_l_row.nd
  have tk : Takes (cxOf (L2.CX P w) P w K mg base n_l_row "_law_row" (defScope s_l_row) f cdv Ar outer s H E) (WE0 E) := takes_of rfl rfl rfl rfl
  have hp : PassesOwn (model P w) (Ar.deeper (envOfC "_law_row" (defScope s_l_row) s.heap.objs.size f cdv)) (envOfC "_law_row" (defScope s_l_row) s.heap.objs.size f cdv) (cxOf (L2.CX P w) P w K mg base n_l_row "_law_row" (defScope s_l_row) f cdv Ar outer s H E).xe := passes_of (X := cxOf (L2.CX P w) P w K mg base n_l_row "_law_row" (defScope s_l_row) f cdv Ar outer s H E) rfl
  exact (pdss_cons (pds_if (pdt_eq hw (pd_ix hu (pd_v 0) pd_int) (pd_str (by decide +kernel))) (pdss_one (pds_ret (pd_tup (pda_cons (pd_ix hu (pd_v 0) pd_int) (pda_cons (pd_ix hu (pd_v 0) pd_int) (pda_cons (pd_ix hu (pd_v 0) pd_int) pda_nil)))))) pdss_nil)
      (pdss_one (pds_ret (pd_tup (pda_cons (pd_ix hu (pd_v 0) pd_int) (pda_cons (pd_ix hu (pd_v 0) pd_int) pda_nil))))))
abbrev s_l_next : Stmt := topS 50
abbrev n_l_next : List Str := ["_law_now", "_law_seats_here", "_law_patience_here", "_law_reading", "_law_queue", "_law_place"]
theorem sc_l_next : FnScope n_l_next ["_law_now", "_law_seats_here", "_law_patience_here"] (defScope s_l_next) := ⟨rfl, rfl, rfl, by decide +kernel, rfl, by decide +kernel, by decide +kernel⟩
theorem ok_l_next {f : Addr} {fd : FuncData} (F : Fun K "_law_next" "_law_next" s_l_next f fd) (T : Txt K mg A)  : FnD P w K mg base 1 f fd ["_law_now", "_law_seats_here", "_law_patience_here"] m_l_next := by
  refine DL.okD (N := n_l_next) F sc_l_next len_l_next (by decide) (fun cdv Ar outer s H E hr => ?_) read_l_next
  have hu := hu_of hr
  have hw := hr.units
  have nd := sc_l_next.nd
  have tk : Takes (cxOf (L2.CX P w) P w K mg base n_l_next "_law_next" (defScope s_l_next) f cdv Ar outer s H E) (WE0 E) := takes_of rfl rfl rfl rfl
  have hp : PassesOwn (model P w) (Ar.deeper (envOfC "_law_next" (defScope s_l_next) s.heap.objs.size f cdv)) (envOfC "_law_next" (defScope s_l_next) s.heap.objs.size f cdv) (cxOf (L2.CX P w) P w K mg base n_l_next "_law_next" (defScope s_l_next) f cdv Ar outer s H E).xe := passes_of (X := cxOf (L2.CX P w) P w K mg base n_l_next "_law_next" (defScope s_l_next) f cdv Ar outer s H E) rfl
  exact (pdss_cons (pds_set (i := 3) nd rfl (Or.inl rfl) (pd_ix hu (pd_v 0) (pd_str (by decide +kernel))))
      (pdss_cons (pds_if (pdt_notN (pd_ix hu (pd_v 0) (pd_str (by decide +kernel)))) (pdss_cons (pds_if (pdt_eq hw (pd_v 3) (pd_lst (pda_cons (pd_ix hu (pd_v 0) (pd_str (by decide +kernel))) pda_nil))) (pdss_one (pds_ret (pd_neg pd_int))) pdss_nil)
      (pdss_one (pds_ret pd_non))) pdss_nil)
      (pdss_cons (pds_set (i := 4) nd rfl (Or.inl rfl) (pd_ix hu (pd_v 0) (pd_str (by decide +kernel))))
      (pdss_cons (pds_if (pdt_w (pdw_or (pdt_eq hw (pd_v 4) (pd_lst pda_nil)) (pdw_or1 (pdt_notN (pd_ix hu (pd_v 0) (pd_str (by decide +kernel))))))) (pdss_one (pds_ret pd_non)) pdss_nil)
      (pdss_cons (pds_if (pdt_w (pdw_and (pdt_eq hw (pd_ix hu (pd_ix hu (pd_v 4) pd_int) pd_int) (pd_str (by decide +kernel))) (pdw_and1 (pdt_eq hw (pd_v 3) (pd_lst pda_nil))))) (pdss_one (pds_ret pd_int)) pdss_nil)
      (pdss_cons (pds_if (pdt_ge (pd_callB call_len l_len rfl T.b_len (by decide +kernel) (pda_cons (pd_v 3) pda_nil)) (pd_v 1)) (pdss_one (pds_ret pd_non)) pdss_nil)
      (pdss_cons (pds_for hp rfl (pdi_range1 rfl T.b_range (pda_cons (pd_callB call_len l_len rfl T.b_len (by decide +kernel) (pda_cons (pd_v 4) pda_nil)) pda_nil)) (pdg_name (i := 5) nd rfl (Or.inl rfl)) (pdss_cons (pds_if (pdt_eq hw (pd_ix hu (pd_ix hu (pd_v 4) (pd_v 5)) pd_int) (pd_str (by decide +kernel))) (pdss_one (pds_ret (pd_v 5))) pdss_nil)
      (pdss_one (pds_if (pdt_ge (pd_ix hu (pd_ix hu (pd_v 4) (pd_v 5)) pd_int) (pd_v 2)) (pdss_one (pds_ret pd_non)) pdss_nil))))
      (pdss_one (pds_ret pd_non)))))))))
abbrev s_l_pair : Stmt := topS 51
abbrev n_l_pair : List Str := ["_law_now", "_law_place"]
theorem sc_l_pair : FnScope n_l_pair ["_law_now", "_law_place"] (defScope s_l_pair) := ⟨rfl, rfl, rfl, by decide +kernel, rfl, by decide +kernel, by decide +kernel⟩
theorem ok_l_pair {f : Addr} {fd : FuncData} (F : Fun K "_law_pair" "_law_pair" s_l_pair f fd) (T : Txt K mg A)  : FnD P w K mg base 1 f fd ["_law_now", "_law_place"] m_l_pair := by
  refine DL.okD (N := n_l_pair) F sc_l_pair len_l_pair (by decide) (fun cdv Ar outer s H E hr => ?_) read_l_pair
  have hu := hu_of hr
  have hw := hr.units
  have nd := sc_l_pair.nd
  have tk : Takes (cxOf (L2.CX P w) P w K mg base n_l_pair "_law_pair" (defScope s_l_pair) f cdv Ar outer s H E) (WE0 E) := takes_of rfl rfl rfl rfl
  have hp : PassesOwn (model P w) (Ar.deeper (envOfC "_law_pair" (defScope s_l_pair) s.heap.objs.size f cdv)) (envOfC "_law_pair" (defScope s_l_pair) s.heap.objs.size f cdv) (cxOf (L2.CX P w) P w K mg base n_l_pair "_law_pair" (defScope s_l_pair) f cdv Ar outer s H E).xe := passes_of (X := cxOf (L2.CX P w) P w K mg base n_l_pair "_law_pair" (defScope s_l_pair) f cdv Ar outer s H E) rfl
  exact (pdss_cons (pds_if (pdt_lt (pd_v 1) pd_int) (pdss_one (pds_ret (pd_tup (pda_cons (pd_ix hu (pd_v 0) (pd_str (by decide +kernel))) (pda_cons (pd_str (by decide +kernel)) pda_nil))))) pdss_nil)
      (pdss_one (pds_ret (pd_tup (pda_cons (pd_ix hu (pd_ix hu (pd_ix hu (pd_v 0) (pd_str (by decide +kernel))) (pd_v 1)) pd_int) (pda_cons (pd_ix hu (pd_ix hu (pd_ix hu (pd_v 0) (pd_str (by decide +kernel))) (pd_v 1)) pd_int) pda_nil))))))
abbrev s_l_began : Stmt := topS 43
abbrev n_l_began : List Str := ["_law_now", "_law_place", "_law_new", "_law_one", "_law_ahead", "_law_other"]
theorem sc_l_began : FnScope n_l_began ["_law_now", "_law_place"] (defScope s_l_began) := ⟨rfl, rfl, rfl, by decide +kernel, rfl, by decide +kernel, by decide +kernel⟩
theorem ok_l_began {f : Addr} {fd : FuncData} (F : Fun K "_law_began" "_law_began" s_l_began f fd) (T : Txt K mg A)  : FnD P w K mg base 1 f fd ["_law_now", "_law_place"] m_l_began := by
  refine DL.okD (N := n_l_began) F sc_l_began len_l_began (by decide) (fun cdv Ar outer s H E hr => ?_) read_l_began
  have hu := hu_of hr
  have hw := hr.units
  have nd := sc_l_began.nd
  have tk : Takes (cxOf (L2.CX P w) P w K mg base n_l_began "_law_began" (defScope s_l_began) f cdv Ar outer s H E) (WE0 E) := takes_of rfl rfl rfl rfl
  have hp : PassesOwn (model P w) (Ar.deeper (envOfC "_law_began" (defScope s_l_began) s.heap.objs.size f cdv)) (envOfC "_law_began" (defScope s_l_began) s.heap.objs.size f cdv) (cxOf (L2.CX P w) P w K mg base n_l_began "_law_began" (defScope s_l_began) f cdv Ar outer s H E).xe := passes_of (X := cxOf (L2.CX P w) P w K mg base n_l_began "_law_began" (defScope s_l_began) f cdv Ar outer s H E) rfl
  exact (pdss_cons (pds_set (i := 2) nd rfl (Or.inl rfl) (pd_callTy call_dictD l_dictM rfl T.b_dict (by decide +kernel) (pda_cons (pd_v 0) pda_nil)))
      (pdss_cons (pds_if (pdt_lt (pd_v 1) pd_int) (pdss_cons (pds_put hu (pd_v 2) (pd_str (by decide +kernel)) (pd_ix hu (pd_v 0) (pd_str (by decide +kernel))))
      (pdss_cons (pds_put hu (pd_v 2) (pd_str (by decide +kernel)) pd_non)
      (pdss_cons (pds_put hu (pd_v 2) (pd_str (by decide +kernel)) (pd_lst pda_nil))
      (pdss_one (pds_ret (pd_frz (pd_v 2))))))) pdss_nil)
      (pdss_cons (pds_set (i := 3) nd rfl (Or.inl rfl) (pd_ix hu (pd_ix hu (pd_v 0) (pd_str (by decide +kernel))) (pd_v 1)))
      (pdss_cons (pds_setLc (i := 4) rfl nd rfl rfl (sw_true rfl rfl rfl (by decide +kernel)) (pdi_any (pd_slice (pd_ix hu (pd_v 0) (pd_str (by decide +kernel))) pdo_none (pdo_some (pd_v 1)))) (blkOk_by (own := [("_law_other", 5)]) (N := n_l_began) (sc := defScope s_l_began) (by decide +kernel)) (fun _ _ _ _ _ => pg_name (i := 5) nd rfl (Or.inl rfl)) (fun _ _ _ _ _ => pdts_nil) (fun _ _ _ _ _ => (pd_tup (pda_cons (pd_ix hu (pd_v 5) pd_int) (pda_cons (pd_ix hu (pd_v 5) pd_int) (pda_cons (pd_add (pd_ix hu (pd_v 5) pd_int) pd_int) pda_nil))))))
      (pdss_cons (pds_put hu (pd_v 2) (pd_str (by decide +kernel)) (pd_add (pd_v 4) (pd_slice (pd_ix hu (pd_v 0) (pd_str (by decide +kernel))) (pdo_some (pd_add (pd_v 1) pd_int)) pdo_none)))
      (pdss_cons (pds_if (pdt_eq hw (pd_ix hu (pd_v 3) pd_int) (pd_str (by decide +kernel))) (pdss_one (pds_put hu (pd_v 2) (pd_str (by decide +kernel)) (pd_add (pd_ix hu (pd_v 0) (pd_str (by decide +kernel))) (pd_lst (pda_cons (pd_ix hu (pd_v 3) pd_int) pda_nil))))) (pdss_one (pds_put hu (pd_v 2) (pd_str (by decide +kernel)) (pd_ix hu (pd_v 3) pd_int))))
      (pdss_one (pds_ret (pd_frz (pd_v 2))))))))))
abbrev s_l_journal : Stmt := topS 55
abbrev n_l_journal : List Str := ["_law_script", "_law_seats_here", "_law_patience_here", "_law_many", "_law_people_here", "_law_deeds", "_law_now", "_law_rows", "_law_k", "_law_deed", "_law_waits", "_law_one", "_law_place"]
theorem sc_l_journal : FnScope n_l_journal ["_law_script", "_law_seats_here", "_law_patience_here"] (defScope s_l_journal) := ⟨rfl, rfl, rfl, by decide +kernel, rfl, by decide +kernel, by decide +kernel⟩
theorem ok_l_journal {f : Addr} {fd : FuncData} (F : Fun K "_law_journal" "_law_journal" s_l_journal f fd) (T : Txt K mg A) (h_l_cell_at : Has P w K mg base "_law_cell_at" ["_law_script", "_law_k"] 1 m_l_cell_at) (h_l_names : Has P w K mg base "_law_names" ["_law_script", "_law_many"] 2 m_l_names) (h_l_crowd : Has P w K mg base "_law_crowd" ["_law_script", "_law_many"] 2 m_l_crowd) (h_l_fresh : Has P w K mg base "_law_fresh" [] 1 m_l_fresh) (h_l_deed_by : Has P w K mg base "_law_deed_by" ["_law_cell", "_law_people_here", "_law_inside_here", "_law_waits"] 2 m_l_deed_by) (h_l_inside : Has P w K mg base "_law_inside" ["_law_now"] 1 m_l_inside) (h_l_refused : Has P w K mg base "_law_refused" ["_law_now", "_law_deed"] 2 m_l_refused) (h_l_deed_done : Has P w K mg base "_law_deed_done" ["_law_now", "_law_deed"] 1 m_l_deed_done) (h_l_row : Has P w K mg base "_law_row" ["_law_deed"] 1 m_l_row) (h_l_next : Has P w K mg base "_law_next" ["_law_now", "_law_seats_here", "_law_patience_here"] 1 m_l_next) (h_l_pair : Has P w K mg base "_law_pair" ["_law_now", "_law_place"] 1 m_l_pair) (h_l_began : Has P w K mg base "_law_began" ["_law_now", "_law_place"] 1 m_l_began) : FnD P w K mg base 3 f fd ["_law_script", "_law_seats_here", "_law_patience_here"] m_l_journal := by
  refine DL.okD (N := n_l_journal) F sc_l_journal len_l_journal (by decide) (fun cdv Ar outer s H E hr => ?_) read_l_journal
  have hu := hu_of hr
  have hw := hr.units
  have nd := sc_l_journal.nd
  have tk : Takes (cxOf (L2.CX P w) P w K mg base n_l_journal "_law_journal" (defScope s_l_journal) f cdv Ar outer s H E) (WE0 E) := takes_of rfl rfl rfl rfl
  have hp : PassesOwn (model P w) (Ar.deeper (envOfC "_law_journal" (defScope s_l_journal) s.heap.objs.size f cdv)) (envOfC "_law_journal" (defScope s_l_journal) s.heap.objs.size f cdv) (cxOf (L2.CX P w) P w K mg base n_l_journal "_law_journal" (defScope s_l_journal) f cdv Ar outer s H E).xe := passes_of (X := cxOf (L2.CX P w) P w K mg base n_l_journal "_law_journal" (defScope s_l_journal) f cdv Ar outer s H E) rfl
  exact (pdss_cons (pds_set (i := 3) nd rfl (Or.inl rfl) (pd_add pd_int (pd_mod (pd_callH tk h_l_cell_at (hr.mono (by decide)) rfl (pda_cons (pd_v 0) (pda_cons pd_int pda_nil))) pd_int)))
      (pdss_cons (pds_set (i := 4) nd rfl (Or.inl rfl) (pd_callH tk h_l_names (hr.mono (by decide)) rfl (pda_cons (pd_v 0) (pda_cons (pd_v 3) pda_nil))))
      (pdss_cons (pds_set (i := 5) nd rfl (Or.inl rfl) (pd_callH tk h_l_crowd (hr.mono (by decide)) rfl (pda_cons (pd_v 0) (pda_cons (pd_v 3) pda_nil))))
      (pdss_cons (pds_set (i := 6) nd rfl (Or.inl rfl) (pd_call0H tk h_l_fresh (hr.mono (by decide)) rfl))
      (pdss_cons (pds_set (i := 7) nd rfl (Or.inl rfl) (pd_lstM pda_nil))
      (pdss_cons (pds_for hp rfl (pdi_range1 rfl T.b_range (pda_cons (pd_add (pd_callB call_len l_len rfl T.b_len (by decide +kernel) (pda_cons (pd_v 5) pda_nil)) (pd_callB (call_max2 rfl) l_int2 rfl T.b_max (by decide +kernel) (pda_cons pd_int (pda_cons (pd_sub (pd_callB call_len l_len rfl T.b_len (by decide +kernel) (pda_cons (pd_v 0) pda_nil)) pd_int) pda_nil)))) pda_nil)) (pdg_name (i := 8) nd rfl (Or.inl rfl)) (pdss_cons (pds_if (pdt_lt (pd_v 8) (pd_callB call_len l_len rfl T.b_len (by decide +kernel) (pda_cons (pd_v 5) pda_nil))) (pdss_one (pds_set (i := 9) nd rfl (Or.inl rfl) (pd_ix hu (pd_v 5) (pd_v 8)))) (pdss_cons (pds_setLc (i := 10) rfl nd rfl rfl (sw_true rfl rfl rfl (by decide +kernel)) (pdi_any (pd_ix hu (pd_v 6) (pd_str (by decide +kernel)))) (blkOk_by (own := [("_law_one", 11)]) (N := n_l_journal) (sc := defScope s_l_journal) (by decide +kernel)) (fun _ _ _ _ _ => pg_name (i := 11) nd rfl (Or.inl rfl)) (fun _ _ _ _ _ => pdts_nil) (fun _ _ _ _ _ => (pd_ix hu (pd_v 11) pd_int)))
      (pdss_one (pds_set (i := 9) nd rfl (Or.inl rfl) (pd_callH tk h_l_deed_by (hr.mono (by decide)) rfl (pda_cons (pd_ix hu (pd_v 0) (pd_sub (pd_add pd_int (pd_v 8)) (pd_callB call_len l_len rfl T.b_len (by decide +kernel) (pda_cons (pd_v 5) pda_nil)))) (pda_cons (pd_v 4) (pda_cons (pd_callH tk h_l_inside (hr.mono (by decide)) rfl (pda_cons (pd_v 6) pda_nil)) (pda_cons (pd_v 10) pda_nil)))))))))
      (pdss_one (pds_if (pdt_not (pdt_val (pd_callH tk h_l_refused (hr.mono (by decide)) rfl (pda_cons (pd_v 6) (pda_cons (pd_v 9) pda_nil))))) (pdss_cons (pds_set (i := 6) nd rfl (Or.inl rfl) (pd_callH tk h_l_deed_done (hr.mono (by decide)) rfl (pda_cons (pd_v 6) (pda_cons (pd_v 9) pda_nil))))
      (pdss_cons (pds_expr (pd_bmL PySem.F.plainAttrs_list PySem.F.slot_list_append PySem.F.type_list_append mt_append l_append (pd_v 7) (pda_cons (pd_callH tk h_l_row (hr.mono (by decide)) rfl (pda_cons (pd_v 9) pda_nil)) pda_nil)))
      (pdss_cons (pds_set (i := 12) nd rfl (Or.inl rfl) (pd_callH tk h_l_next (hr.mono (by decide)) rfl (pda_cons (pd_v 6) (pda_cons (pd_v 1) (pda_cons (pd_v 2) pda_nil)))))
      (pdss_one (pds_while hp (pdt_notN (pd_v 12)) (pdss_cons (pds_expr (pd_bmL PySem.F.plainAttrs_list PySem.F.slot_list_append PySem.F.type_list_append mt_append l_append (pd_v 7) (pda_cons (pd_add (pd_tup (pda_cons (pd_str (by decide +kernel)) pda_nil)) (pd_callH tk h_l_pair (hr.mono (by decide)) rfl (pda_cons (pd_v 6) (pda_cons (pd_v 12) pda_nil)))) pda_nil)))
      (pdss_cons (pds_set (i := 6) nd rfl (Or.inl rfl) (pd_callH tk h_l_began (hr.mono (by decide)) rfl (pda_cons (pd_v 6) (pda_cons (pd_v 12) pda_nil))))
      (pdss_one (pds_set (i := 12) nd rfl (Or.inl rfl) (pd_callH tk h_l_next (hr.mono (by decide)) rfl (pda_cons (pd_v 6) (pda_cons (pd_v 1) (pda_cons (pd_v 2) pda_nil))))))))))))) pdss_nil))))
      (pdss_one (pds_ret (pd_frz (pd_v 7))))))))))
abbrev s_l_misspelt : Stmt := topS 57
abbrev n_l_misspelt : List Str := ["_law_rows", "_law_more", "_law_places", "_law_k", "_law_writers", "_law_place", "_law_words"]
theorem sc_l_misspelt : FnScope n_l_misspelt ["_law_rows", "_law_more"] (defScope s_l_misspelt) := ⟨rfl, rfl, rfl, by decide +kernel, rfl, by decide +kernel, by decide +kernel⟩
theorem ok_l_misspelt {f : Addr} {fd : FuncData} (F : Fun K "_law_misspelt" "_law_misspelt" s_l_misspelt f fd) (T : Txt K mg A)  : FnD P w K mg base 1 f fd ["_law_rows", "_law_more"] m_l_misspelt := by
  refine DL.okD (N := n_l_misspelt) F sc_l_misspelt len_l_misspelt (by decide) (fun cdv Ar outer s H E hr => ?_) read_l_misspelt
  have hu := hu_of hr
  have hw := hr.units
  have nd := sc_l_misspelt.nd
  have tk : Takes (cxOf (L2.CX P w) P w K mg base n_l_misspelt "_law_misspelt" (defScope s_l_misspelt) f cdv Ar outer s H E) (WE0 E) := takes_of rfl rfl rfl rfl
  have hp : PassesOwn (model P w) (Ar.deeper (envOfC "_law_misspelt" (defScope s_l_misspelt) s.heap.objs.size f cdv)) (envOfC "_law_misspelt" (defScope s_l_misspelt) s.heap.objs.size f cdv) (cxOf (L2.CX P w) P w K mg base n_l_misspelt "_law_misspelt" (defScope s_l_misspelt) f cdv Ar outer s H E).xe := passes_of (X := cxOf (L2.CX P w) P w K mg base n_l_misspelt "_law_misspelt" (defScope s_l_misspelt) f cdv Ar outer s H E) rfl
  exact (pdss_cons (pds_setLc (i := 2) rfl nd rfl rfl (sw_true rfl rfl rfl (by decide +kernel)) (pdi_range1 rfl T.b_range (pda_cons (pd_callB call_len l_len rfl T.b_len (by decide +kernel) (pda_cons (pd_v 0) pda_nil)) pda_nil)) (blkOk_by (own := [("_law_k", 3)]) (N := n_l_misspelt) (sc := defScope s_l_misspelt) (by decide +kernel)) (fun _ _ _ _ _ => pg_name (i := 3) nd rfl (Or.inl rfl)) (fun _ _ _ _ _ => (pdts_one (pdt_eq hw (pd_ix hu (pd_ix hu (pd_v 0) (pd_v 3)) pd_int) (pd_str (by decide +kernel))))) (fun _ _ _ _ _ => (pd_v 3)))
      (pdss_cons (pds_if (pdt_eq hw (pd_v 2) (pd_lst pda_nil)) (pdss_one (pds_ret (pd_v 0))) pdss_nil)
      (pdss_cons (pds_setLc (i := 4) rfl nd rfl rfl (sw_true rfl rfl rfl (by decide +kernel)) (pdi_any (pd_v 2)) (blkOk_by (own := [("_law_k", 3)]) (N := n_l_misspelt) (sc := defScope s_l_misspelt) (by decide +kernel)) (fun _ _ _ _ _ => pg_name (i := 3) nd rfl (Or.inl rfl)) (fun _ _ _ _ _ => (pdts_one (pdt_eq hw (pd_ix hu (pd_ix hu (pd_v 0) (pd_v 3)) pd_int) (pd_str (by decide +kernel))))) (fun _ _ _ _ _ => (pd_v 3)))
      (pdss_cons (pds_if (pdt_w (pdw_and (pdt_ne hw (pd_v 4) (pd_lst pda_nil)) (pdw_and1 (pdt_ne hw (pd_mod (pd_v 1) pd_int) pd_int)))) (pdss_one (pds_set (i := 2) nd rfl (Or.inl rfl) (pd_v 4))) pdss_nil)
      (pdss_cons (pds_set (i := 5) nd rfl (Or.inl rfl) (pd_add (pd_ix hu (pd_v 2) (pd_mod (pd_div (pd_v 1) pd_int) (pd_callB call_len l_len rfl T.b_len (by decide +kernel) (pda_cons (pd_v 2) pda_nil)))) pd_int))
      (pdss_cons (pds_set (i := 6) nd rfl (Or.inl rfl) (pd_lst (pda_cons (pd_str (by decide +kernel)) (pda_cons (pd_str (by decide +kernel)) (pda_cons (pd_str (by decide +kernel)) (pda_cons (pd_str (by decide +kernel)) (pda_cons (pd_str (by decide +kernel)) (pda_cons (pd_str (by decide +kernel)) (pda_cons (pd_str (by decide +kernel)) (pda_cons (pd_str (by decide +kernel)) (pda_cons (pd_str (by decide +kernel)) (pda_cons (pd_str (by decide +kernel)) (pda_cons (pd_str (by decide +kernel)) (pda_cons (pd_str (by decide +kernel)) pda_nil))))))))))))))
      (pdss_one (pds_ret (pd_add (pd_add (pd_slice (pd_v 0) pdo_none (pdo_some (pd_v 5))) (pd_lst (pda_cons (pd_tup (pda_cons (pd_ix hu (pd_v 6) (pd_mod (pd_div (pd_v 1) pd_int) pd_int)) (pda_cons (pd_ix hu (pd_ix hu (pd_v 0) (pd_sub (pd_v 5) pd_int)) pd_int) pda_nil))) pda_nil))) (pd_slice (pd_v 0) (pdo_some (pd_v 5)) pdo_none))))))))))
abbrev s_l_other_row : Stmt := topS 56
abbrev n_l_other_row : List Str := ["_law_row_here", "_law_way", "_law_cell", "_law_ahead", "_law_who", "_law_some"]
theorem sc_l_other_row : FnScope n_l_other_row ["_law_row_here", "_law_way", "_law_cell", "_law_ahead"] (defScope s_l_other_row) := ⟨rfl, rfl, rfl, by decide +kernel, rfl, by decide +kernel, by decide +kernel⟩
theorem ok_l_other_row {f : Addr} {fd : FuncData} (F : Fun K "_law_other_row" "_law_other_row" s_l_other_row f fd) (T : Txt K mg A)  : FnD P w K mg base 1 f fd ["_law_row_here", "_law_way", "_law_cell", "_law_ahead"] m_l_other_row := by
  refine DL.okD (N := n_l_other_row) F sc_l_other_row len_l_other_row (by decide) (fun cdv Ar outer s H E hr => ?_) read_l_other_row
  have hu := hu_of hr
  have hw := hr.units
  have nd := sc_l_other_row.nd
  have tk : Takes (cxOf (L2.CX P w) P w K mg base n_l_other_row "_law_other_row" (defScope s_l_other_row) f cdv Ar outer s H E) (WE0 E) := takes_of rfl rfl rfl rfl
  have hp : PassesOwn (model P w) (Ar.deeper (envOfC "_law_other_row" (defScope s_l_other_row) s.heap.objs.size f cdv)) (envOfC "_law_other_row" (defScope s_l_other_row) s.heap.objs.size f cdv) (cxOf (L2.CX P w) P w K mg base n_l_other_row "_law_other_row" (defScope s_l_other_row) f cdv Ar outer s H E).xe := passes_of (X := cxOf (L2.CX P w) P w K mg base n_l_other_row "_law_other_row" (defScope s_l_other_row) f cdv Ar outer s H E) rfl
  exact (pdss_cons (pds_if (pdt_eq hw (pd_v 1) pd_int) (pdss_one (pds_ret (pd_add (pd_tup (pda_cons (pd_ix hu (pd_v 0) pd_int) (pda_cons (pd_ix hu (pd_lst (pda_cons (pd_str (by decide +kernel)) (pda_cons (pd_str (by decide +kernel)) (pda_cons (pd_str (by decide +kernel)) (pda_cons (pd_add (pd_slice (pd_ix hu (pd_v 0) pd_int) (pdo_some pd_int) pdo_none) (pd_str (by decide +kernel))) (pda_cons (pd_str (by decide +kernel)) (pda_cons (pd_str (by decide +kernel)) pda_nil))))))) (pd_mod (pd_v 2) pd_int)) pda_nil))) (pd_slice (pd_v 0) (pdo_some pd_int) pdo_none)))) pdss_nil)
      (pdss_cons (pds_if (pdt_w (pdw_and (pdt_eq hw (pd_v 1) pd_int) (pdw_and1 (pdt_eq hw (pd_callB call_len l_len rfl T.b_len (by decide +kernel) (pda_cons (pd_v 0) pda_nil)) pd_int)))) (pdss_one (pds_ret (pd_tup (pda_cons (pd_ix hu (pd_v 0) pd_int) (pda_cons (pd_ix hu (pd_v 0) pd_int) (pda_cons (pd_ix hu (pd_lst (pda_cons (pd_str (by decide +kernel)) (pda_cons (pd_str (by decide +kernel)) pda_nil))) (pd_callTy call_int1 l_int1 rfl T.b_int (by decide +kernel) (pda_cons (pd_eq hw (pd_ix hu (pd_v 0) pd_int) (pd_str (by decide +kernel))) pda_nil))) pda_nil)))))) pdss_nil)
      (pdss_cons (pds_set (i := 4) nd rfl (Or.inl rfl) (pd_ix hu (pd_v 0) pd_int))
      (pdss_cons (pds_if (pdt_eq hw (pd_mod (pd_div (pd_v 2) pd_int) pd_int) pd_int) (pdss_one (pds_set (i := 4) nd rfl (Or.inl rfl) (pd_ix hu (pd_v 3) pd_int))) pdss_nil)
      (pdss_cons (pds_set (i := 5) nd rfl (Or.inl rfl) (pd_lst (pda_cons pd_non (pda_cons pd_int (pda_cons (pd_add (pd_str (by decide +kernel)) (pd_v 4)) (pda_cons (pd_lst (pda_cons (pd_str (by decide +kernel)) (pda_cons (pd_v 4) pda_nil))) (pda_cons (pd_tup (pda_cons (pd_str (by decide +kernel)) pda_nil)) (pda_cons (pd_tup (pda_cons (pd_str (by decide +kernel)) (pda_cons (pd_v 4) (pda_cons (pd_str (by decide +kernel)) pda_nil)))) (pda_cons (pd_tup (pda_cons (pd_str (by decide +kernel)) (pda_cons (pd_v 4) pda_nil))) pda_nil)))))))))
      (pdss_cons (pds_set (i := 5) nd rfl (Or.inl rfl) (pd_add (pd_v 5) (pd_lst (pda_cons (pd_tup (pda_cons (pd_str (by decide +kernel)) (pda_cons (pd_v 4) (pda_cons (pd_str (by decide +kernel)) pda_nil)))) (pda_cons (pd_tup (pda_cons (pd_str (by decide +kernel)) (pda_cons pd_int (pda_cons (pd_str (by decide +kernel)) pda_nil)))) (pda_cons (pd_tup (pda_cons (pd_str (by decide +kernel)) (pda_cons (pd_v 4) (pda_cons (pd_str (by decide +kernel)) pda_nil)))) (pda_cons (pd_tup (pda_cons (pd_str (by decide +kernel)) (pda_cons pd_non pda_nil))) (pda_cons (pd_tup pda_nil) pda_nil))))))))
      (pdss_cons (pds_set (i := 5) nd rfl (Or.inl rfl) (pd_add (pd_v 5) (pd_lst (pda_cons (pd_tup (pda_cons (pd_str (by decide +kernel)) (pda_cons (pd_v 4) (pda_cons (pd_str (by decide +kernel)) (pda_cons (pd_str (by decide +kernel)) pda_nil))))) (pda_cons (pd_tup (pda_cons (pd_str (by decide +kernel)) (pda_cons (pd_v 4) pda_nil))) (pda_cons (pd_tup (pda_cons (pd_str (by decide +kernel)) (pda_cons (pd_v 4) pda_nil))) (pda_cons (pd_tup (pda_cons (pd_str (by decide +kernel)) (pda_cons (pd_v 4) pda_nil))) (pda_cons (pd_tup (pda_cons (pd_str (by decide +kernel)) (pda_cons (pd_v 4) pda_nil))) pda_nil))))))))
      (pdss_cons (pds_set (i := 5) nd rfl (Or.inl rfl) (pd_add (pd_v 5) (pd_lst (pda_cons (pd_tup (pda_cons (pd_str (by decide +kernel)) (pda_cons (pd_v 4) pda_nil))) (pda_cons (pd_tup (pda_cons pd_int (pda_cons (pd_v 4) pda_nil))) (pda_cons (pd_tup (pda_cons (pd_str (by decide +kernel)) (pda_cons (pd_lst (pda_cons (pd_v 4) pda_nil)) pda_nil))) (pda_cons (pd_tup (pda_cons (pd_str (by decide +kernel)) (pda_cons (pd_v 4) (pda_cons pd_non pda_nil)))) (pda_cons (pd_tup (pda_cons (pd_str (by decide +kernel)) (pda_cons (pd_lst (pda_cons (pd_v 4) pda_nil)) (pda_cons (pd_str (by decide +kernel)) pda_nil)))) pda_nil))))))))
      (pdss_cons (pds_set (i := 5) nd rfl (Or.inl rfl) (pd_add (pd_v 5) (pd_lst (pda_cons (pd_tup (pda_cons (pd_str (by decide +kernel)) (pda_cons (pd_v 4) pda_nil))) (pda_cons (pd_tup (pda_cons (pd_str (by decide +kernel)) (pda_cons (pd_v 4) pda_nil))) (pda_cons (pd_tup (pda_cons (pd_str (by decide +kernel)) (pda_cons (pd_v 4) pda_nil))) (pda_cons (pd_tup (pda_cons (pd_str (by decide +kernel)) (pda_cons (pd_v 4) pda_nil))) (pda_cons (pd_tup (pda_cons (pd_str (by decide +kernel)) (pda_cons (pd_v 4) (pda_cons (pd_str (by decide +kernel)) pda_nil)))) (pda_cons pd_dic0M pda_nil)))))))))
      (pdss_cons (pds_set (i := 5) nd rfl (Or.inl rfl) (pd_add (pd_v 5) (pd_lst (pda_cons (pd_tup (pda_cons (pd_str (by decide +kernel)) (pda_cons (pd_v 4) (pda_cons (pd_str (by decide +kernel)) pda_nil)))) (pda_cons (pd_tup (pda_cons (pd_str (by decide +kernel)) (pda_cons (pd_v 4) pda_nil))) pda_nil)))))
      (pdss_one (pds_ret (pd_ix hu (pd_v 5) (pd_mod (pd_v 2) pd_int))))))))))))))
abbrev s_l_spoilt : Stmt := topS 58
abbrev n_l_spoilt : List Str := ["_law_rows", "_law_cell", "_law_more", "_law_way", "_law_place", "_law_behind", "_law_who", "_law_odd", "_law_one"]
theorem sc_l_spoilt : FnScope n_l_spoilt ["_law_rows", "_law_cell", "_law_more"] (defScope s_l_spoilt) := ⟨rfl, rfl, rfl, by decide +kernel, rfl, by decide +kernel, by decide +kernel⟩
theorem ok_l_spoilt {f : Addr} {fd : FuncData} (F : Fun K "_law_spoilt" "_law_spoilt" s_l_spoilt f fd) (T : Txt K mg A) (h_l_misspelt : Has P w K mg base "_law_misspelt" ["_law_rows", "_law_more"] 1 m_l_misspelt) (h_l_other_row : Has P w K mg base "_law_other_row" ["_law_row_here", "_law_way", "_law_cell", "_law_ahead"] 1 m_l_other_row) : FnD P w K mg base 2 f fd ["_law_rows", "_law_cell", "_law_more"] m_l_spoilt := by
  refine DL.okD (N := n_l_spoilt) F sc_l_spoilt len_l_spoilt (by decide) (fun cdv Ar outer s H E hr => ?_) read_l_spoilt
  have hu := hu_of hr
  have hw := hr.units
  have nd := sc_l_spoilt.nd
  have tk : Takes (cxOf (L2.CX P w) P w K mg base n_l_spoilt "_law_spoilt" (defScope s_l_spoilt) f cdv Ar outer s H E) (WE0 E) := takes_of rfl rfl rfl rfl
  have hp : PassesOwn (model P w) (Ar.deeper (envOfC "_law_spoilt" (defScope s_l_spoilt) s.heap.objs.size f cdv)) (envOfC "_law_spoilt" (defScope s_l_spoilt) s.heap.objs.size f cdv) (cxOf (L2.CX P w) P w K mg base n_l_spoilt "_law_spoilt" (defScope s_l_spoilt) f cdv Ar outer s H E).xe := passes_of (X := cxOf (L2.CX P w) P w K mg base n_l_spoilt "_law_spoilt" (defScope s_l_spoilt) f cdv Ar outer s H E) rfl
  exact (pdss_cons (pds_set (i := 3) nd rfl (Or.inl rfl) (pd_mod (pd_v 1) pd_int))
      (pdss_cons (pds_if (pdt_w (pdw_or (pdt_eq hw (pd_v 0) (pd_lst pda_nil)) (pdw_or (pdt_eq hw (pd_v 3) pd_int) (pdw_or1 (pdt_gt (pd_v 3) pd_int))))) (pdss_one (pds_ret (pd_v 0))) pdss_nil)
      (pdss_cons (pds_if (pdt_eq hw (pd_v 3) pd_int) (pdss_one (pds_ret (pd_callH tk h_l_misspelt (hr.mono (by decide)) rfl (pda_cons (pd_v 0) (pda_cons (pd_v 2) pda_nil))))) pdss_nil)
      (pdss_cons (pds_set (i := 4) nd rfl (Or.inl rfl) (pd_mod (pd_div (pd_v 1) pd_int) (pd_callB call_len l_len rfl T.b_len (by decide +kernel) (pda_cons (pd_v 0) pda_nil))))
      (pdss_cons (pds_if (pdt_eq hw (pd_v 3) pd_int) (pdss_one (pds_ret (pd_add (pd_slice (pd_v 0) pdo_none (pdo_some (pd_v 4))) (pd_slice (pd_v 0) (pdo_some (pd_add (pd_v 4) pd_int)) pdo_none)))) pdss_nil)
      (pdss_cons (pds_if (pdt_eq hw (pd_v 3) pd_int) (pdss_one (pds_ret (pd_add (pd_slice (pd_v 0) pdo_none (pdo_some (pd_add (pd_v 4) pd_int))) (pd_slice (pd_v 0) (pdo_some (pd_v 4)) pdo_none)))) pdss_nil)
      (pdss_cons (pds_if (pdt_eq hw (pd_v 3) pd_int) (pdss_cons (pds_set (i := 5) nd rfl (Or.inl rfl) (pd_slice (pd_v 0) (pdo_some (pd_add (pd_v 4) pd_int)) pdo_none))
      (pdss_one (pds_ret (pd_add (pd_add (pd_add (pd_slice (pd_v 0) pdo_none (pdo_some (pd_v 4))) (pd_slice (pd_v 5) pdo_none (pdo_some pd_int))) (pd_lst (pda_cons (pd_ix hu (pd_v 0) (pd_v 4)) pda_nil))) (pd_slice (pd_v 5) (pdo_some pd_int) pdo_none))))) pdss_nil)
      (pdss_cons (pds_if (pdt_eq hw (pd_v 3) pd_int) (pdss_one (pds_ret (pd_slice (pd_v 0) pdo_none (pdo_some (pd_v 4))))) pdss_nil)
      (pdss_cons (pds_if (pdt_eq hw (pd_v 3) pd_int) (pdss_cons (pds_set (i := 6) nd rfl (Or.inl rfl) (pd_ix hu (pd_ix hu (pd_v 0) (pd_v 4)) pd_int))
      (pdss_cons (pds_set (i := 7) nd rfl (Or.inl rfl) (pd_lstM (pda_cons (pd_tup (pda_cons (pd_str (by decide +kernel)) (pda_cons (pd_v 6) pda_nil))) (pda_cons (pd_tup (pda_cons (pd_str (by decide +kernel)) (pda_cons (pd_v 6) pda_nil))) (pda_cons (pd_tup (pda_cons (pd_str (by decide +kernel)) (pda_cons (pd_str (by decide +kernel)) (pda_cons (pd_str (by decide +kernel)) pda_nil)))) pda_nil)))))
      (pdss_cons (pds_expr (pd_bmL PySem.F.plainAttrs_list PySem.F.slot_list_append PySem.F.type_list_append mt_append l_append (pd_v 7) (pda_cons (pd_tup (pda_cons (pd_str (by decide +kernel)) (pda_cons (pd_str (by decide +kernel)) (pda_cons (pd_str (by decide +kernel)) pda_nil)))) pda_nil)))
      (pdss_one (pds_ret (pd_add (pd_add (pd_slice (pd_v 0) pdo_none (pdo_some (pd_v 4))) (pd_lst (pda_cons (pd_ix hu (pd_v 7) (pd_mod (pd_v 2) pd_int)) pda_nil))) (pd_slice (pd_v 0) (pdo_some (pd_v 4)) pdo_none))))))) pdss_nil)
      (pdss_cons (pds_set (i := 8) nd rfl (Or.inl rfl) (pd_callH tk h_l_other_row (hr.mono (by decide)) rfl (pda_cons (pd_ix hu (pd_v 0) (pd_v 4)) (pda_cons (pd_v 3) (pda_cons (pd_v 2) (pda_cons (pd_ix hu (pd_v 0) (pd_sub (pd_v 4) pd_int)) pda_nil))))))
      (pdss_one (pds_ret (pd_add (pd_add (pd_slice (pd_v 0) pdo_none (pdo_some (pd_v 4))) (pd_lst (pda_cons (pd_v 8) pda_nil))) (pd_slice (pd_v 0) (pdo_some (pd_add (pd_v 4) pd_int)) pdo_none))))))))))))))
abbrev s_is_row : Stmt := topS 28
abbrev n_is_row : List Str := ["row", "word"]
theorem sc_is_row : FnScope n_is_row ["row"] (defScope s_is_row) := ⟨rfl, rfl, rfl, by decide +kernel, rfl, by decide +kernel, by decide +kernel⟩
theorem ok_is_row {f : Addr} {fd : FuncData} (F : Fun K "is_row" "is_row" s_is_row f fd) (T : Txt K mg A)  : FnD P w K mg base 1 f fd ["row"] m_is_row := by
  refine DL.okD (N := n_is_row) F sc_is_row len_is_row (by decide) (fun cdv Ar outer s H E hr => ?_) read_is_row
  have hu := hu_of hr
  have hw := hr.units
  have nd := sc_is_row.nd
  have tk : Takes (cxOf (L2.CX P w) P w K mg base n_is_row "is_row" (defScope s_is_row) f cdv Ar outer s H E) (WE0 E) := takes_of rfl rfl rfl rfl
  have hp : PassesOwn (model P w) (Ar.deeper (envOfC "is_row" (defScope s_is_row) s.heap.objs.size f cdv)) (envOfC "is_row" (defScope s_is_row) s.heap.objs.size f cdv) (cxOf (L2.CX P w) P w K mg base n_is_row "is_row" (defScope s_is_row) f cdv Ar outer s H E).xe := passes_of (X := cxOf (L2.CX P w) P w K mg base n_is_row "is_row" (defScope s_is_row) f cdv Ar outer s H E) rfl
  exact (pdss_cons (pds_if (pdt_w (pdw_or (pdt_not (pdt_val (pd_callB call_isi l_isi rfl T.b_isinstance (by decide +kernel) (pda_cons (pd_v 0) (pda_cons (pd_bltn rfl T.b_tuple (by decide +kernel)) pda_nil))))) (pdw_or1 (pdt_not (pdt_chain op_le op_le l_cmp l_cmp pd_int (pd_callB call_len l_len rfl T.b_len (by decide +kernel) (pda_cons (pd_v 0) pda_nil)) pd_int))))) (pdss_one (pds_ret pd_bl)) pdss_nil)
      (pdss_cons (pds_for hp rfl (pdi_any (pd_v 0)) (pdg_name (i := 1) nd rfl (Or.inl rfl)) (pdss_one (pds_if (pdt_not (pdt_val (pd_callB call_isi l_isi rfl T.b_isinstance (by decide +kernel) (pda_cons (pd_v 1) (pda_cons (pd_bltn rfl T.b_str (by decide +kernel)) pda_nil))))) (pdss_one (pds_ret pd_bl)) pdss_nil)))
      (pdss_cons (pds_if (pdt_eq hw (pd_callB call_len l_len rfl T.b_len (by decide +kernel) (pda_cons (pd_v 0) pda_nil)) pd_int) (pdss_one (pds_ret (pd_or (pd_eq hw (pd_ix hu (pd_v 0) pd_int) (pd_str (by decide +kernel))) (pd_one (pd_eq hw (pd_ix hu (pd_v 0) pd_int) (pd_str (by decide +kernel))))))) pdss_nil)
      (pdss_one (pds_ret (pd_or (pd_eq hw (pd_ix hu (pd_v 0) pd_int) (pd_str (by decide +kernel))) (pd_or (pd_eq hw (pd_ix hu (pd_v 0) pd_int) (pd_str (by decide +kernel))) (pd_one (pd_eq hw (pd_ix hu (pd_v 0) pd_int) (pd_str (by decide +kernel)))))))))))
abbrev s_is_name : Stmt := topS 19
abbrev n_is_name : List Str := ["thing", "sign"]
theorem sc_is_name : FnScope n_is_name ["thing"] (defScope s_is_name) := ⟨rfl, rfl, rfl, by decide +kernel, rfl, by decide +kernel, by decide +kernel⟩
theorem ok_is_name {f : Addr} {fd : FuncData} (F : Fun K "is_name" "is_name" s_is_name f fd) (T : Txt K mg A)  : FnD P w K mg base 1 f fd ["thing"] m_is_name := by
  refine DL.okD (N := n_is_name) F sc_is_name len_is_name (by decide) (fun cdv Ar outer s H E hr => ?_) read_is_name
  have hu := hu_of hr
  have hw := hr.units
  have nd := sc_is_name.nd
  have tk : Takes (cxOf (L2.CX P w) P w K mg base n_is_name "is_name" (defScope s_is_name) f cdv Ar outer s H E) (WE0 E) := takes_of rfl rfl rfl rfl
  have hp : PassesOwn (model P w) (Ar.deeper (envOfC "is_name" (defScope s_is_name) s.heap.objs.size f cdv)) (envOfC "is_name" (defScope s_is_name) s.heap.objs.size f cdv) (cxOf (L2.CX P w) P w K mg base n_is_name "is_name" (defScope s_is_name) f cdv Ar outer s H E).xe := passes_of (X := cxOf (L2.CX P w) P w K mg base n_is_name "is_name" (defScope s_is_name) f cdv Ar outer s H E) rfl
  exact (pdss_cons (pds_if (pdt_w (pdw_or (pdt_not (pdt_val (pd_callB call_isi l_isi rfl T.b_isinstance (by decide +kernel) (pda_cons (pd_v 0) (pda_cons (pd_bltn rfl T.b_str (by decide +kernel)) pda_nil))))) (pdw_or1 (pdt_not (pdt_chain op_le op_le l_cmp l_cmp pd_int (pd_callB call_len l_len rfl T.b_len (by decide +kernel) (pda_cons (pd_v 0) pda_nil)) (pd_globE (v := .int 12) rfl T.mg_LONGEST (fun _ => .int _))))))) (pdss_one (pds_ret pd_bl)) pdss_nil)
      (pdss_cons (pds_for hp rfl (pdi_any (pd_v 0)) (pdg_name (i := 1) nd rfl (Or.inl rfl)) (pdss_one (pds_if (pdt_notIn (pd_v 1) (pd_globE (v := .str "abcdefghijklmnopqrstuvwxyz0123456789") rfl T.mg_SIGNS (fun _ => .str _ (by decide +kernel)))) (pdss_one (pds_ret pd_bl)) pdss_nil)))
      (pdss_one (pds_ret pd_bl))))
abbrev s_is_wish : Stmt := topS 20
abbrev n_is_wish : List Str := ["thing"]
theorem sc_is_wish : FnScope n_is_wish ["thing"] (defScope s_is_wish) := ⟨rfl, rfl, rfl, by decide +kernel, rfl, by decide +kernel, by decide +kernel⟩
theorem ok_is_wish {f : Addr} {fd : FuncData} (F : Fun K "is_wish" "is_wish" s_is_wish f fd) (T : Txt K mg A)  : FnD P w K mg base 1 f fd ["thing"] m_is_wish := by
  refine DL.okD (N := n_is_wish) F sc_is_wish len_is_wish (by decide) (fun cdv Ar outer s H E hr => ?_) read_is_wish
  have hu := hu_of hr
  have hw := hr.units
  have nd := sc_is_wish.nd
  have tk : Takes (cxOf (L2.CX P w) P w K mg base n_is_wish "is_wish" (defScope s_is_wish) f cdv Ar outer s H E) (WE0 E) := takes_of rfl rfl rfl rfl
  have hp : PassesOwn (model P w) (Ar.deeper (envOfC "is_wish" (defScope s_is_wish) s.heap.objs.size f cdv)) (envOfC "is_wish" (defScope s_is_wish) s.heap.objs.size f cdv) (cxOf (L2.CX P w) P w K mg base n_is_wish "is_wish" (defScope s_is_wish) f cdv Ar outer s H E).xe := passes_of (X := cxOf (L2.CX P w) P w K mg base n_is_wish "is_wish" (defScope s_is_wish) f cdv Ar outer s H E) rfl
  exact (pdss_one (pds_ret (pd_and (pd_callB call_isi l_isi rfl T.b_isinstance (by decide +kernel) (pda_cons (pd_v 0) (pda_cons (pd_bltn rfl T.b_str (by decide +kernel)) pda_nil))) (pd_one (pd_or (pd_eq hw (pd_v 0) (pd_str (by decide +kernel))) (pd_one (pd_eq hw (pd_v 0) (pd_str (by decide +kernel)))))))))
abbrev s_room_is_waiting : Stmt := inClass (topS 26) 2
abbrev n_room_is_waiting : List Str := ["self", "name", "one"]
theorem sc_room_is_waiting : FnScope n_room_is_waiting ["self", "name"] (defScope s_room_is_waiting) := ⟨rfl, rfl, rfl, by decide +kernel, rfl, by decide +kernel, by decide +kernel⟩
theorem ok_room_is_waiting {f : Addr} {fd : FuncData} (F : Fun K "is_waiting" "Room.is_waiting" s_room_is_waiting f fd) (T : Txt K mg A)  : FnD P w K mg base 1 f fd ["self", "name"] (m_room_is_waiting A) := by
  refine DL.okD (N := n_room_is_waiting) F sc_room_is_waiting (len_room_is_waiting A) (by decide) (fun cdv Ar outer s H E hr => ?_) (read_room_is_waiting A)
  have hu := hu_of hr
  have hw := hr.units
  have nd := sc_room_is_waiting.nd
  have tk : Takes (cxOf (L2.CX P w) P w K mg base n_room_is_waiting "Room.is_waiting" (defScope s_room_is_waiting) f cdv Ar outer s H E) (WE0 E) := takes_of rfl rfl rfl rfl
  have hp : PassesOwn (model P w) (Ar.deeper (envOfC "Room.is_waiting" (defScope s_room_is_waiting) s.heap.objs.size f cdv)) (envOfC "Room.is_waiting" (defScope s_room_is_waiting) s.heap.objs.size f cdv) (cxOf (L2.CX P w) P w K mg base n_room_is_waiting "Room.is_waiting" (defScope s_room_is_waiting) f cdv Ar outer s H E).xe := passes_of (X := cxOf (L2.CX P w) P w K mg base n_room_is_waiting "Room.is_waiting" (defScope s_room_is_waiting) f cdv Ar outer s H E) rfl
  exact (pdss_one (pds_ret (pd_in (pd_v 1) (pd_lc rfl nd (pdi_any (pd_fld T.cl_Room T.no_waiting (pd_v 0))) (blkOk_by (own := [("one", 2)]) (N := n_room_is_waiting) (sc := defScope s_room_is_waiting) (by decide +kernel)) (fun _ _ _ _ _ => pg_name (i := 2) nd rfl (Or.inl rfl)) (fun _ _ _ _ _ => pdts_nil) (fun _ _ _ _ _ => (pd_ix hu (pd_v 2) pd_int))))))
abbrev s_room_is_inside : Stmt := inClass (topS 26) 1
abbrev n_room_is_inside : List Str := ["self", "name"]
theorem sc_room_is_inside : FnScope n_room_is_inside ["self", "name"] (defScope s_room_is_inside) := ⟨rfl, rfl, rfl, by decide +kernel, rfl, by decide +kernel, by decide +kernel⟩
theorem ok_room_is_inside {f : Addr} {fd : FuncData} (F : Fun K "is_inside" "Room.is_inside" s_room_is_inside f fd) (T : Txt K mg A)  : FnD P w K mg base 1 f fd ["self", "name"] (m_room_is_inside A) := by
  refine DL.okD (N := n_room_is_inside) F sc_room_is_inside (len_room_is_inside A) (by decide) (fun cdv Ar outer s H E hr => ?_) (read_room_is_inside A)
  have hu := hu_of hr
  have hw := hr.units
  have nd := sc_room_is_inside.nd
  have tk : Takes (cxOf (L2.CX P w) P w K mg base n_room_is_inside "Room.is_inside" (defScope s_room_is_inside) f cdv Ar outer s H E) (WE0 E) := takes_of rfl rfl rfl rfl
  have hp : PassesOwn (model P w) (Ar.deeper (envOfC "Room.is_inside" (defScope s_room_is_inside) s.heap.objs.size f cdv)) (envOfC "Room.is_inside" (defScope s_room_is_inside) s.heap.objs.size f cdv) (cxOf (L2.CX P w) P w K mg base n_room_is_inside "Room.is_inside" (defScope s_room_is_inside) f cdv Ar outer s H E).xe := passes_of (X := cxOf (L2.CX P w) P w K mg base n_room_is_inside "Room.is_inside" (defScope s_room_is_inside) f cdv Ar outer s H E) rfl
  exact (pdss_one (pds_ret (pd_or (pd_in (pd_v 1) (pd_fld T.cl_Room T.no_reading (pd_v 0))) (pd_one (pd_and (pd_notN (pd_fld T.cl_Room T.no_alone (pd_v 0))) (pd_one (pd_eq hw (pd_v 1) (pd_fld T.cl_Room T.no_alone (pd_v 0)))))))))
abbrev s_can_begin : Stmt := topS 22
abbrev n_can_begin : List Str := ["seats", "reading", "writes", "wish"]
theorem sc_can_begin : FnScope n_can_begin ["seats", "reading", "writes", "wish"] (defScope s_can_begin) := ⟨rfl, rfl, rfl, by decide +kernel, rfl, by decide +kernel, by decide +kernel⟩
theorem ok_can_begin {f : Addr} {fd : FuncData} (F : Fun K "can_begin" "can_begin" s_can_begin f fd) (T : Txt K mg A)  : FnD P w K mg base 1 f fd ["seats", "reading", "writes", "wish"] m_can_begin := by
  refine DL.okD (N := n_can_begin) F sc_can_begin len_can_begin (by decide) (fun cdv Ar outer s H E hr => ?_) read_can_begin
  have hu := hu_of hr
  have hw := hr.units
  have nd := sc_can_begin.nd
  have tk : Takes (cxOf (L2.CX P w) P w K mg base n_can_begin "can_begin" (defScope s_can_begin) f cdv Ar outer s H E) (WE0 E) := takes_of rfl rfl rfl rfl
  have hp : PassesOwn (model P w) (Ar.deeper (envOfC "can_begin" (defScope s_can_begin) s.heap.objs.size f cdv)) (envOfC "can_begin" (defScope s_can_begin) s.heap.objs.size f cdv) (cxOf (L2.CX P w) P w K mg base n_can_begin "can_begin" (defScope s_can_begin) f cdv Ar outer s H E).xe := passes_of (X := cxOf (L2.CX P w) P w K mg base n_can_begin "can_begin" (defScope s_can_begin) f cdv Ar outer s H E) rfl
  exact (pdss_cons (pds_if (pdt_eq hw (pd_v 3) (pd_str (by decide +kernel))) (pdss_one (pds_ret (pd_and (pd_not (pd_v 2)) (pd_one (pd_lt (pd_v 1) (pd_v 0)))))) pdss_nil)
      (pdss_one (pds_ret (pd_and (pd_not (pd_v 2)) (pd_one (pd_eq hw (pd_v 1) pd_int))))))
abbrev s_first_reader : Stmt := topS 23
abbrev n_first_reader : List Str := ["line", "place", "one"]
theorem sc_first_reader : FnScope n_first_reader ["line"] (defScope s_first_reader) := ⟨rfl, rfl, rfl, by decide +kernel, rfl, by decide +kernel, by decide +kernel⟩
theorem ok_first_reader {f : Addr} {fd : FuncData} (F : Fun K "first_reader" "first_reader" s_first_reader f fd) (T : Txt K mg A)  : FnD P w K mg base 1 f fd ["line"] m_first_reader := by
  refine DL.okD (N := n_first_reader) F sc_first_reader len_first_reader (by decide) (fun cdv Ar outer s H E hr => ?_) read_first_reader
  have hu := hu_of hr
  have hw := hr.units
  have nd := sc_first_reader.nd
  have tk : Takes (cxOf (L2.CX P w) P w K mg base n_first_reader "first_reader" (defScope s_first_reader) f cdv Ar outer s H E) (WE0 E) := takes_of rfl rfl rfl rfl
  have hp : PassesOwn (model P w) (Ar.deeper (envOfC "first_reader" (defScope s_first_reader) s.heap.objs.size f cdv)) (envOfC "first_reader" (defScope s_first_reader) s.heap.objs.size f cdv) (cxOf (L2.CX P w) P w K mg base n_first_reader "first_reader" (defScope s_first_reader) f cdv Ar outer s H E).xe := passes_of (X := cxOf (L2.CX P w) P w K mg base n_first_reader "first_reader" (defScope s_first_reader) f cdv Ar outer s H E) rfl
  exact (pdss_cons (pds_for hp rfl (pdi_enum rfl T.b_enumerate (pda_cons (pd_v 0) pda_nil)) (pdg_pair (i := 1) (j := 2) rfl nd rfl (Or.inl rfl) rfl (Or.inl rfl)) (pdss_one (pds_if (pdt_eq hw (pd_ix hu (pd_v 2) pd_int) (pd_str (by decide +kernel))) (pdss_one (pds_ret (pd_v 1))) pdss_nil)))
      (pdss_one (pds_ret pd_non)))
abbrev s_next_place : Stmt := topS 24
abbrev n_next_place : List Str := ["line", "seats", "patience", "reading", "writes", "place", "one"]
theorem sc_next_place : FnScope n_next_place ["line", "seats", "patience", "reading", "writes"] (defScope s_next_place) := ⟨rfl, rfl, rfl, by decide +kernel, rfl, by decide +kernel, by decide +kernel⟩
theorem ok_next_place {f : Addr} {fd : FuncData} (F : Fun K "next_place" "next_place" s_next_place f fd) (T : Txt K mg A) (h_can_begin : Has P w K mg base "can_begin" ["seats", "reading", "writes", "wish"] 1 m_can_begin) (h_first_reader : Has P w K mg base "first_reader" ["line"] 1 m_first_reader) : FnD P w K mg base 2 f fd ["line", "seats", "patience", "reading", "writes"] m_next_place := by
  refine DL.okD (N := n_next_place) F sc_next_place len_next_place (by decide) (fun cdv Ar outer s H E hr => ?_) read_next_place
  have hu := hu_of hr
  have hw := hr.units
  have nd := sc_next_place.nd
  have tk : Takes (cxOf (L2.CX P w) P w K mg base n_next_place "next_place" (defScope s_next_place) f cdv Ar outer s H E) (WE0 E) := takes_of rfl rfl rfl rfl
  have hp : PassesOwn (model P w) (Ar.deeper (envOfC "next_place" (defScope s_next_place) s.heap.objs.size f cdv)) (envOfC "next_place" (defScope s_next_place) s.heap.objs.size f cdv) (cxOf (L2.CX P w) P w K mg base n_next_place "next_place" (defScope s_next_place) f cdv Ar outer s H E).xe := passes_of (X := cxOf (L2.CX P w) P w K mg base n_next_place "next_place" (defScope s_next_place) f cdv Ar outer s H E) rfl
  exact (pdss_cons (pds_if (pdt_eq hw (pd_v 0) (pd_lst pda_nil)) (pdss_one (pds_ret pd_non)) pdss_nil)
      (pdss_cons (pds_if (pdt_val (pd_callH tk h_can_begin (hr.mono (by decide)) rfl (pda_cons (pd_v 1) (pda_cons (pd_v 3) (pda_cons (pd_v 4) (pda_cons (pd_ix hu (pd_ix hu (pd_v 0) pd_int) pd_int) pda_nil)))))) (pdss_one (pds_ret pd_int)) pdss_nil)
      (pdss_cons (pds_if (pdt_w (pdw_or (pdt_eq hw (pd_ix hu (pd_ix hu (pd_v 0) pd_int) pd_int) (pd_str (by decide +kernel))) (pdw_or1 (pdt_eq hw (pd_v 3) pd_int)))) (pdss_one (pds_ret pd_non)) pdss_nil)
      (pdss_cons (pds_set (i := 5) nd rfl (Or.inl rfl) (pd_callH tk h_first_reader (hr.mono (by decide)) rfl (pda_cons (pd_v 0) pda_nil)))
      (pdss_cons (pds_if (pdt_w (pdw_or (pdt_isN (pd_v 5)) (pdw_or1 (pdt_not (pdt_val (pd_callH tk h_can_begin (hr.mono (by decide)) rfl (pda_cons (pd_v 1) (pda_cons (pd_v 3) (pda_cons (pd_v 4) (pda_cons (pd_str (by decide +kernel)) pda_nil)))))))))) (pdss_one (pds_ret pd_non)) pdss_nil)
      (pdss_cons (pds_for hp rfl (pdi_any (pd_slice (pd_v 0) pdo_none (pdo_some (pd_v 5)))) (pdg_name (i := 6) nd rfl (Or.inl rfl)) (pdss_one (pds_if (pdt_ge (pd_ix hu (pd_v 6) pd_int) (pd_v 2)) (pdss_one (pds_ret pd_non)) pdss_nil)))
      (pdss_one (pds_ret (pd_v 5)))))))))
abbrev s_room_begun : Stmt := inClass (topS 26) 9
abbrev n_room_begun : List Str := ["self", "place", "one", "ahead", "other"]
theorem sc_room_begun : FnScope n_room_begun ["self"] (defScope s_room_begun) := ⟨rfl, rfl, rfl, by decide +kernel, rfl, by decide +kernel, by decide +kernel⟩
theorem ok_room_begun {f : Addr} {fd : FuncData} (F : Fun K "begun" "Room.begun" s_room_begun f fd) (T : Txt K mg A) (h_next_place : Has P w K mg base "next_place" ["line", "seats", "patience", "reading", "writes"] 2 m_next_place) : FnD P w K mg base 3 f fd ["self"] (m_room_begun A) := by
  refine DL.okD (N := n_room_begun) F sc_room_begun (len_room_begun A) (by decide) (fun cdv Ar outer s H E hr => ?_) (read_room_begun A)
  have hu := hu_of hr
  have hw := hr.units
  have nd := sc_room_begun.nd
  have tk : Takes (cxOf (L2.CX P w) P w K mg base n_room_begun "Room.begun" (defScope s_room_begun) f cdv Ar outer s H E) (WE0 E) := takes_of rfl rfl rfl rfl
  have hp : PassesOwn (model P w) (Ar.deeper (envOfC "Room.begun" (defScope s_room_begun) s.heap.objs.size f cdv)) (envOfC "Room.begun" (defScope s_room_begun) s.heap.objs.size f cdv) (cxOf (L2.CX P w) P w K mg base n_room_begun "Room.begun" (defScope s_room_begun) f cdv Ar outer s H E).xe := passes_of (X := cxOf (L2.CX P w) P w K mg base n_room_begun "Room.begun" (defScope s_room_begun) f cdv Ar outer s H E) rfl
  exact (pdss_cons (pds_if (pdt_notN (pd_fld T.cl_Room T.no_asking (pd_v 0))) (pdss_cons (pds_if (pdt_gt (pd_callB call_len l_len rfl T.b_len (by decide +kernel) (pda_cons (pd_fld T.cl_Room T.no_reading (pd_v 0)) pda_nil)) pd_int) (pdss_one (pds_ret pd_non)) pdss_nil)
      (pdss_cons (pds_fld T.cl_Room T.no_alone (pd_v 0) (pd_fld T.cl_Room T.no_asking (pd_v 0)))
      (pdss_cons (pds_fld T.cl_Room T.no_asking (pd_v 0) pd_non)
      (pdss_cons (pds_fld T.cl_Room T.no_reading (pd_v 0) (pd_lst pda_nil))
      (pdss_one (pds_ret (pd_tup (pda_cons (pd_fld T.cl_Room T.no_alone (pd_v 0)) (pda_cons (pd_str (by decide +kernel)) pda_nil))))))))) pdss_nil)
      (pdss_cons (pds_set (i := 1) nd rfl (Or.inl rfl) (pd_callH tk h_next_place (hr.mono (by decide)) rfl (pda_cons (pd_fld T.cl_Room T.no_waiting (pd_v 0)) (pda_cons (pd_fld T.cl_Room T.no_seats (pd_v 0)) (pda_cons (pd_fld T.cl_Room T.no_patience (pd_v 0)) (pda_cons (pd_callB call_len l_len rfl T.b_len (by decide +kernel) (pda_cons (pd_fld T.cl_Room T.no_reading (pd_v 0)) pda_nil)) (pda_cons (pd_notN (pd_fld T.cl_Room T.no_alone (pd_v 0))) pda_nil)))))))
      (pdss_cons (pds_if (pdt_isN (pd_v 1)) (pdss_one (pds_ret pd_non)) pdss_nil)
      (pdss_cons (pds_set (i := 2) nd rfl (Or.inl rfl) (pd_ix hu (pd_fld T.cl_Room T.no_waiting (pd_v 0)) (pd_v 1)))
      (pdss_cons (pds_setLc (i := 3) rfl nd rfl rfl (sw_true rfl rfl rfl (by decide +kernel)) (pdi_any (pd_slice (pd_fld T.cl_Room T.no_waiting (pd_v 0)) pdo_none (pdo_some (pd_v 1)))) (blkOk_by (own := [("other", 4)]) (N := n_room_begun) (sc := defScope s_room_begun) (by decide +kernel)) (fun _ _ _ _ _ => pg_name (i := 4) nd rfl (Or.inl rfl)) (fun _ _ _ _ _ => pdts_nil) (fun _ _ _ _ _ => (pd_tup (pda_cons (pd_ix hu (pd_v 4) pd_int) (pda_cons (pd_ix hu (pd_v 4) pd_int) (pda_cons (pd_add (pd_ix hu (pd_v 4) pd_int) pd_int) pda_nil))))))
      (pdss_cons (pds_fld T.cl_Room T.no_waiting (pd_v 0) (pd_add (pd_v 3) (pd_slice (pd_fld T.cl_Room T.no_waiting (pd_v 0)) (pdo_some (pd_add (pd_v 1) pd_int)) pdo_none)))
      (pdss_cons (pds_if (pdt_eq hw (pd_ix hu (pd_v 2) pd_int) (pd_str (by decide +kernel))) (pdss_one (pds_fld T.cl_Room T.no_reading (pd_v 0) (pd_add (pd_fld T.cl_Room T.no_reading (pd_v 0)) (pd_lst (pda_cons (pd_ix hu (pd_v 2) pd_int) pda_nil))))) (pdss_one (pds_fld T.cl_Room T.no_alone (pd_v 0) (pd_ix hu (pd_v 2) pd_int))))
      (pdss_one (pds_ret (pd_tup (pda_cons (pd_ix hu (pd_v 2) pd_int) (pda_cons (pd_ix hu (pd_v 2) pd_int) pda_nil))))))))))))
abbrev s_room_settled : Stmt := inClass (topS 26) 8
abbrev n_room_settled : List Str := ["self", "row", "found", "one"]
theorem sc_room_settled : FnScope n_room_settled ["self", "row"] (defScope s_room_settled) := ⟨rfl, rfl, rfl, by decide +kernel, rfl, by decide +kernel, by decide +kernel⟩
theorem ok_room_settled {f : Addr} {fd : FuncData} (F : Fun K "settled" "Room.settled" s_room_settled f fd) (T : Txt K mg A) (h_room_begun : HasM P w K mg base A.Room "begun" ["self"] 3 (m_room_begun A)) : FnD P w K mg base 4 f fd ["self", "row"] (m_room_settled A) := by
  refine DL.okD (N := n_room_settled) F sc_room_settled (len_room_settled A) (by decide) (fun cdv Ar outer s H E hr => ?_) (read_room_settled A)
  have hu := hu_of hr
  have hw := hr.units
  have nd := sc_room_settled.nd
  have tk : Takes (cxOf (L2.CX P w) P w K mg base n_room_settled "Room.settled" (defScope s_room_settled) f cdv Ar outer s H E) (WE0 E) := takes_of rfl rfl rfl rfl
  have hp : PassesOwn (model P w) (Ar.deeper (envOfC "Room.settled" (defScope s_room_settled) s.heap.objs.size f cdv)) (envOfC "Room.settled" (defScope s_room_settled) s.heap.objs.size f cdv) (cxOf (L2.CX P w) P w K mg base n_room_settled "Room.settled" (defScope s_room_settled) f cdv Ar outer s H E).xe := passes_of (X := cxOf (L2.CX P w) P w K mg base n_room_settled "Room.settled" (defScope s_room_settled) f cdv Ar outer s H E) rfl
  exact (pdss_cons (pds_fld T.cl_Room T.no_rows (pd_v 0) (pd_add (pd_fld T.cl_Room T.no_rows (pd_v 0)) (pd_lst (pda_cons (pd_v 1) pda_nil))))
      (pdss_cons (pds_set (i := 2) nd rfl (Or.inl rfl) (pd_lstM pda_nil))
      (pdss_cons (pds_set (i := 3) nd rfl (Or.inl rfl) (pd_meth0H tk (pd_v 0) T.cl_Room h_room_begun (hr.mono (by decide))))
      (pdss_cons (pds_while hp (pdt_notN (pd_v 3)) (pdss_cons (pds_expr (pd_bmL PySem.F.plainAttrs_list PySem.F.slot_list_append PySem.F.type_list_append mt_append l_append (pd_v 2) (pda_cons (pd_v 3) pda_nil)))
      (pdss_cons (pds_fld T.cl_Room T.no_rows (pd_v 0) (pd_add (pd_fld T.cl_Room T.no_rows (pd_v 0)) (pd_lst (pda_cons (pd_tup (pda_cons (pd_str (by decide +kernel)) (pda_cons (pd_ix hu (pd_v 3) pd_int) (pda_cons (pd_ix hu (pd_v 3) pd_int) pda_nil)))) pda_nil))))
      (pdss_one (pds_set (i := 3) nd rfl (Or.inl rfl) (pd_meth0H tk (pd_v 0) T.cl_Room h_room_begun (hr.mono (by decide))))))))
      (pdss_one (pds_ret (pd_v 2)))))))
abbrev s_room_come : Stmt := inClass (topS 26) 4
abbrev n_room_come : List Str := ["self", "name", "wish"]
theorem sc_room_come : FnScope n_room_come ["self", "name", "wish"] (defScope s_room_come) := ⟨rfl, rfl, rfl, by decide +kernel, rfl, by decide +kernel, by decide +kernel⟩
theorem ok_room_come {f : Addr} {fd : FuncData} (F : Fun K "come" "Room.come" s_room_come f fd) (T : Txt K mg A) (h_is_name : Has P w K mg base "is_name" ["thing"] 1 m_is_name) (h_is_wish : Has P w K mg base "is_wish" ["thing"] 1 m_is_wish) (h_room_is_waiting : HasM P w K mg base A.Room "is_waiting" ["self", "name"] 1 (m_room_is_waiting A)) (h_room_is_inside : HasM P w K mg base A.Room "is_inside" ["self", "name"] 1 (m_room_is_inside A)) (h_room_settled : HasM P w K mg base A.Room "settled" ["self", "row"] 4 (m_room_settled A)) : FnD P w K mg base 5 f fd ["self", "name", "wish"] (m_room_come A) := by
  refine DL.okD (N := n_room_come) F sc_room_come (len_room_come A) (by decide) (fun cdv Ar outer s H E hr => ?_) (read_room_come A)
  have hu := hu_of hr
  have hw := hr.units
  have nd := sc_room_come.nd
  have tk : Takes (cxOf (L2.CX P w) P w K mg base n_room_come "Room.come" (defScope s_room_come) f cdv Ar outer s H E) (WE0 E) := takes_of rfl rfl rfl rfl
  have hp : PassesOwn (model P w) (Ar.deeper (envOfC "Room.come" (defScope s_room_come) s.heap.objs.size f cdv)) (envOfC "Room.come" (defScope s_room_come) s.heap.objs.size f cdv) (cxOf (L2.CX P w) P w K mg base n_room_come "Room.come" (defScope s_room_come) f cdv Ar outer s H E).xe := passes_of (X := cxOf (L2.CX P w) P w K mg base n_room_come "Room.come" (defScope s_room_come) f cdv Ar outer s H E) rfl
  exact (pdss_cons (pds_if (pdt_not (pdt_val (pd_callH tk h_is_name (hr.mono (by decide)) rfl (pda_cons (pd_v 1) pda_nil)))) (pdss_one (pds_raise tk rfl PySem.F.excBase_ValueError T.x_BadName T.mg_BadName T.k_BadName (raises_own T.s_BadName T.t_BadName) rfl)) pdss_nil)
      (pdss_cons (pds_if (pdt_not (pdt_val (pd_callH tk h_is_wish (hr.mono (by decide)) rfl (pda_cons (pd_v 2) pda_nil)))) (pdss_one (pds_raise tk rfl PySem.F.excBase_ValueError T.x_BadWish T.mg_BadWish T.k_BadWish (raises_own T.s_BadWish T.t_BadWish) rfl)) pdss_nil)
      (pdss_cons (pds_if (pdt_w (pdw_or (pdt_val (pd_methH tk (pd_v 0) T.cl_Room h_room_is_inside (hr.mono (by decide)) (pda_cons (pd_v 1) pda_nil))) (pdw_or1 (pdt_val (pd_methH tk (pd_v 0) T.cl_Room h_room_is_waiting (hr.mono (by decide)) (pda_cons (pd_v 1) pda_nil)))))) (pdss_one (pds_raise tk rfl PySem.F.excBase_ValueError T.x_Known T.mg_Known T.k_Known (raises_own T.s_Known T.t_Known) rfl)) pdss_nil)
      (pdss_cons (pds_fld T.cl_Room T.no_waiting (pd_v 0) (pd_add (pd_fld T.cl_Room T.no_waiting (pd_v 0)) (pd_lst (pda_cons (pd_tup (pda_cons (pd_v 1) (pda_cons (pd_v 2) (pda_cons pd_int pda_nil)))) pda_nil))))
      (pdss_one (pds_ret (pd_methH tk (pd_v 0) T.cl_Room h_room_settled (hr.mono (by decide)) (pda_cons (pd_tup (pda_cons (pd_str (by decide +kernel)) (pda_cons (pd_v 1) (pda_cons (pd_v 2) pda_nil)))) pda_nil))))))))
abbrev s_room_look : Stmt := inClass (topS 26) 3
abbrev n_room_look : List Str := ["self", "name"]
theorem sc_room_look : FnScope n_room_look ["self", "name"] (defScope s_room_look) := ⟨rfl, rfl, rfl, by decide +kernel, rfl, by decide +kernel, by decide +kernel⟩
theorem ok_room_look {f : Addr} {fd : FuncData} (F : Fun K "look" "Room.look" s_room_look f fd) (T : Txt K mg A) (h_room_is_waiting : HasM P w K mg base A.Room "is_waiting" ["self", "name"] 1 (m_room_is_waiting A)) (h_room_is_inside : HasM P w K mg base A.Room "is_inside" ["self", "name"] 1 (m_room_is_inside A)) (h_is_name : Has P w K mg base "is_name" ["thing"] 1 m_is_name) : FnD P w K mg base 2 f fd ["self", "name"] (m_room_look A) := by
  refine DL.okD (N := n_room_look) F sc_room_look (len_room_look A) (by decide) (fun cdv Ar outer s H E hr => ?_) (read_room_look A)
  have hu := hu_of hr
  have hw := hr.units
  have nd := sc_room_look.nd
  have tk : Takes (cxOf (L2.CX P w) P w K mg base n_room_look "Room.look" (defScope s_room_look) f cdv Ar outer s H E) (WE0 E) := takes_of rfl rfl rfl rfl
  have hp : PassesOwn (model P w) (Ar.deeper (envOfC "Room.look" (defScope s_room_look) s.heap.objs.size f cdv)) (envOfC "Room.look" (defScope s_room_look) s.heap.objs.size f cdv) (cxOf (L2.CX P w) P w K mg base n_room_look "Room.look" (defScope s_room_look) f cdv Ar outer s H E).xe := passes_of (X := cxOf (L2.CX P w) P w K mg base n_room_look "Room.look" (defScope s_room_look) f cdv Ar outer s H E) rfl
  exact (pdss_one (pds_if (pdt_w (pdw_or (pdt_not (pdt_val (pd_callH tk h_is_name (hr.mono (by decide)) rfl (pda_cons (pd_v 1) pda_nil)))) (pdw_or1 (pdt_w (pdw_and (pdt_not (pdt_val (pd_methH tk (pd_v 0) T.cl_Room h_room_is_inside (hr.mono (by decide)) (pda_cons (pd_v 1) pda_nil)))) (pdw_and1 (pdt_not (pdt_val (pd_methH tk (pd_v 0) T.cl_Room h_room_is_waiting (hr.mono (by decide)) (pda_cons (pd_v 1) pda_nil)))))))))) (pdss_one (pds_raise tk rfl PySem.F.excBase_ValueError T.x_Stranger T.mg_Stranger T.k_Stranger (raises_own T.s_Stranger T.t_Stranger) rfl)) pdss_nil))
abbrev s_room_leave : Stmt := inClass (topS 26) 5
abbrev n_room_leave : List Str := ["self", "name", "one"]
theorem sc_room_leave : FnScope n_room_leave ["self", "name"] (defScope s_room_leave) := ⟨rfl, rfl, rfl, by decide +kernel, rfl, by decide +kernel, by decide +kernel⟩
theorem ok_room_leave {f : Addr} {fd : FuncData} (F : Fun K "leave" "Room.leave" s_room_leave f fd) (T : Txt K mg A) (h_room_look : HasM P w K mg base A.Room "look" ["self", "name"] 2 (m_room_look A)) (h_room_settled : HasM P w K mg base A.Room "settled" ["self", "row"] 4 (m_room_settled A)) : FnD P w K mg base 5 f fd ["self", "name"] (m_room_leave A) := by
  refine DL.okD (N := n_room_leave) F sc_room_leave (len_room_leave A) (by decide) (fun cdv Ar outer s H E hr => ?_) (read_room_leave A)
  have hu := hu_of hr
  have hw := hr.units
  have nd := sc_room_leave.nd
  have tk : Takes (cxOf (L2.CX P w) P w K mg base n_room_leave "Room.leave" (defScope s_room_leave) f cdv Ar outer s H E) (WE0 E) := takes_of rfl rfl rfl rfl
  have hp : PassesOwn (model P w) (Ar.deeper (envOfC "Room.leave" (defScope s_room_leave) s.heap.objs.size f cdv)) (envOfC "Room.leave" (defScope s_room_leave) s.heap.objs.size f cdv) (cxOf (L2.CX P w) P w K mg base n_room_leave "Room.leave" (defScope s_room_leave) f cdv Ar outer s H E).xe := passes_of (X := cxOf (L2.CX P w) P w K mg base n_room_leave "Room.leave" (defScope s_room_leave) f cdv Ar outer s H E) rfl
  exact (pdss_cons (pds_expr (pd_methH tk (pd_v 0) T.cl_Room h_room_look (hr.mono (by decide)) (pda_cons (pd_v 1) pda_nil)))
      (pdss_cons (pds_fld T.cl_Room T.no_reading (pd_v 0) (pd_lc rfl nd (pdi_any (pd_fld T.cl_Room T.no_reading (pd_v 0))) (blkOk_by (own := [("one", 2)]) (N := n_room_leave) (sc := defScope s_room_leave) (by decide +kernel)) (fun _ _ _ _ _ => pg_name (i := 2) nd rfl (Or.inl rfl)) (fun _ _ _ _ _ => (pdts_one (pdt_ne hw (pd_v 2) (pd_v 1)))) (fun _ _ _ _ _ => (pd_v 2))))
      (pdss_cons (pds_fld T.cl_Room T.no_waiting (pd_v 0) (pd_lc rfl nd (pdi_any (pd_fld T.cl_Room T.no_waiting (pd_v 0))) (blkOk_by (own := [("one", 2)]) (N := n_room_leave) (sc := defScope s_room_leave) (by decide +kernel)) (fun _ _ _ _ _ => pg_name (i := 2) nd rfl (Or.inl rfl)) (fun _ _ _ _ _ => (pdts_one (pdt_ne hw (pd_ix hu (pd_v 2) pd_int) (pd_v 1)))) (fun _ _ _ _ _ => (pd_v 2))))
      (pdss_cons (pds_if (pdt_w (pdw_and (pdt_notN (pd_fld T.cl_Room T.no_alone (pd_v 0))) (pdw_and1 (pdt_eq hw (pd_fld T.cl_Room T.no_alone (pd_v 0)) (pd_v 1))))) (pdss_one (pds_fld T.cl_Room T.no_alone (pd_v 0) pd_non)) pdss_nil)
      (pdss_cons (pds_if (pdt_w (pdw_and (pdt_notN (pd_fld T.cl_Room T.no_asking (pd_v 0))) (pdw_and1 (pdt_eq hw (pd_fld T.cl_Room T.no_asking (pd_v 0)) (pd_v 1))))) (pdss_one (pds_fld T.cl_Room T.no_asking (pd_v 0) pd_non)) pdss_nil)
      (pdss_one (pds_ret (pd_methH tk (pd_v 0) T.cl_Room h_room_settled (hr.mono (by decide)) (pda_cons (pd_tup (pda_cons (pd_str (by decide +kernel)) (pda_cons (pd_v 1) pda_nil))) pda_nil)))))))))
abbrev s_room_ask : Stmt := inClass (topS 26) 6
abbrev n_room_ask : List Str := ["self", "name"]
theorem sc_room_ask : FnScope n_room_ask ["self", "name"] (defScope s_room_ask) := ⟨rfl, rfl, rfl, by decide +kernel, rfl, by decide +kernel, by decide +kernel⟩
theorem ok_room_ask {f : Addr} {fd : FuncData} (F : Fun K "ask" "Room.ask" s_room_ask f fd) (T : Txt K mg A) (h_room_look : HasM P w K mg base A.Room "look" ["self", "name"] 2 (m_room_look A)) (h_room_is_waiting : HasM P w K mg base A.Room "is_waiting" ["self", "name"] 1 (m_room_is_waiting A)) (h_room_settled : HasM P w K mg base A.Room "settled" ["self", "row"] 4 (m_room_settled A)) : FnD P w K mg base 5 f fd ["self", "name"] (m_room_ask A) := by
  refine DL.okD (N := n_room_ask) F sc_room_ask (len_room_ask A) (by decide) (fun cdv Ar outer s H E hr => ?_) (read_room_ask A)
  have hu := hu_of hr
  have hw := hr.units
  have nd := sc_room_ask.nd
  have tk : Takes (cxOf (L2.CX P w) P w K mg base n_room_ask "Room.ask" (defScope s_room_ask) f cdv Ar outer s H E) (WE0 E) := takes_of rfl rfl rfl rfl
  have hp : PassesOwn (model P w) (Ar.deeper (envOfC "Room.ask" (defScope s_room_ask) s.heap.objs.size f cdv)) (envOfC "Room.ask" (defScope s_room_ask) s.heap.objs.size f cdv) (cxOf (L2.CX P w) P w K mg base n_room_ask "Room.ask" (defScope s_room_ask) f cdv Ar outer s H E).xe := passes_of (X := cxOf (L2.CX P w) P w K mg base n_room_ask "Room.ask" (defScope s_room_ask) f cdv Ar outer s H E) rfl
  exact (pdss_cons (pds_expr (pd_methH tk (pd_v 0) T.cl_Room h_room_look (hr.mono (by decide)) (pda_cons (pd_v 1) pda_nil)))
      (pdss_cons (pds_if (pdt_val (pd_methH tk (pd_v 0) T.cl_Room h_room_is_waiting (hr.mono (by decide)) (pda_cons (pd_v 1) pda_nil))) (pdss_one (pds_raise tk rfl PySem.F.excBase_ValueError T.x_Outside T.mg_Outside T.k_Outside (raises_own T.s_Outside T.t_Outside) rfl)) pdss_nil)
      (pdss_cons (pds_if (pdt_notN (pd_fld T.cl_Room T.no_alone (pd_v 0))) (pdss_one (pds_raise tk rfl PySem.F.excBase_ValueError T.x_Writes T.mg_Writes T.k_Writes (raises_own T.s_Writes T.t_Writes) rfl)) pdss_nil)
      (pdss_cons (pds_if (pdt_notN (pd_fld T.cl_Room T.no_asking (pd_v 0))) (pdss_one (pds_raise tk rfl PySem.F.excBase_ValueError T.x_Asked T.mg_Asked T.k_Asked (raises_own T.s_Asked T.t_Asked) rfl)) pdss_nil)
      (pdss_cons (pds_fld T.cl_Room T.no_asking (pd_v 0) (pd_v 1))
      (pdss_one (pds_ret (pd_methH tk (pd_v 0) T.cl_Room h_room_settled (hr.mono (by decide)) (pda_cons (pd_tup (pda_cons (pd_str (by decide +kernel)) (pda_cons (pd_v 1) pda_nil))) pda_nil)))))))))
abbrev s_room_ease : Stmt := inClass (topS 26) 7
abbrev n_room_ease : List Str := ["self", "name"]
theorem sc_room_ease : FnScope n_room_ease ["self", "name"] (defScope s_room_ease) := ⟨rfl, rfl, rfl, by decide +kernel, rfl, by decide +kernel, by decide +kernel⟩
theorem ok_room_ease {f : Addr} {fd : FuncData} (F : Fun K "ease" "Room.ease" s_room_ease f fd) (T : Txt K mg A) (h_room_look : HasM P w K mg base A.Room "look" ["self", "name"] 2 (m_room_look A)) (h_room_is_waiting : HasM P w K mg base A.Room "is_waiting" ["self", "name"] 1 (m_room_is_waiting A)) (h_room_settled : HasM P w K mg base A.Room "settled" ["self", "row"] 4 (m_room_settled A)) : FnD P w K mg base 5 f fd ["self", "name"] (m_room_ease A) := by
  refine DL.okD (N := n_room_ease) F sc_room_ease (len_room_ease A) (by decide) (fun cdv Ar outer s H E hr => ?_) (read_room_ease A)
  have hu := hu_of hr
  have hw := hr.units
  have nd := sc_room_ease.nd
  have tk : Takes (cxOf (L2.CX P w) P w K mg base n_room_ease "Room.ease" (defScope s_room_ease) f cdv Ar outer s H E) (WE0 E) := takes_of rfl rfl rfl rfl
  have hp : PassesOwn (model P w) (Ar.deeper (envOfC "Room.ease" (defScope s_room_ease) s.heap.objs.size f cdv)) (envOfC "Room.ease" (defScope s_room_ease) s.heap.objs.size f cdv) (cxOf (L2.CX P w) P w K mg base n_room_ease "Room.ease" (defScope s_room_ease) f cdv Ar outer s H E).xe := passes_of (X := cxOf (L2.CX P w) P w K mg base n_room_ease "Room.ease" (defScope s_room_ease) f cdv Ar outer s H E) rfl
  exact (pdss_cons (pds_expr (pd_methH tk (pd_v 0) T.cl_Room h_room_look (hr.mono (by decide)) (pda_cons (pd_v 1) pda_nil)))
      (pdss_cons (pds_if (pdt_val (pd_methH tk (pd_v 0) T.cl_Room h_room_is_waiting (hr.mono (by decide)) (pda_cons (pd_v 1) pda_nil))) (pdss_one (pds_raise tk rfl PySem.F.excBase_ValueError T.x_Outside T.mg_Outside T.k_Outside (raises_own T.s_Outside T.t_Outside) rfl)) pdss_nil)
      (pdss_cons (pds_if (pdt_isN (pd_fld T.cl_Room T.no_alone (pd_v 0))) (pdss_one (pds_raise tk rfl PySem.F.excBase_ValueError T.x_Reads T.mg_Reads T.k_Reads (raises_own T.s_Reads T.t_Reads) rfl)) pdss_nil)
      (pdss_cons (pds_fld T.cl_Room T.no_alone (pd_v 0) pd_non)
      (pdss_cons (pds_fld T.cl_Room T.no_reading (pd_v 0) (pd_lst (pda_cons (pd_v 1) pda_nil)))
      (pdss_one (pds_ret (pd_methH tk (pd_v 0) T.cl_Room h_room_settled (hr.mono (by decide)) (pda_cons (pd_tup (pda_cons (pd_str (by decide +kernel)) (pda_cons (pd_v 1) pda_nil))) pda_nil)))))))))
abbrev s_redone : Stmt := topS 29
abbrev n_redone : List Str := ["room", "row"]
theorem sc_redone : FnScope n_redone ["room", "row"] (defScope s_redone) := ⟨rfl, rfl, rfl, by decide +kernel, rfl, by decide +kernel, by decide +kernel⟩
theorem ok_redone {f : Addr} {fd : FuncData} (F : Fun K "redone" "redone" s_redone f fd) (T : Txt K mg A) (h_room_come : HasM P w K mg base A.Room "come" ["self", "name", "wish"] 5 (m_room_come A)) (h_room_leave : HasM P w K mg base A.Room "leave" ["self", "name"] 5 (m_room_leave A)) (h_room_ask : HasM P w K mg base A.Room "ask" ["self", "name"] 5 (m_room_ask A)) (h_room_ease : HasM P w K mg base A.Room "ease" ["self", "name"] 5 (m_room_ease A)) : FnD P w K mg base 6 f fd ["room", "row"] (m_redone A) := by
  refine DL.okD (N := n_redone) F sc_redone (len_redone A) (by decide) (fun cdv Ar outer s H E hr => ?_) (read_redone A)
  have hu := hu_of hr
  have hw := hr.units
  have nd := sc_redone.nd
  have tk : Takes (cxOf (L2.CX P w) P w K mg base n_redone "redone" (defScope s_redone) f cdv Ar outer s H E) (WE0 E) := takes_of rfl rfl rfl rfl
  have hp : PassesOwn (model P w) (Ar.deeper (envOfC "redone" (defScope s_redone) s.heap.objs.size f cdv)) (envOfC "redone" (defScope s_redone) s.heap.objs.size f cdv) (cxOf (L2.CX P w) P w K mg base n_redone "redone" (defScope s_redone) f cdv Ar outer s H E).xe := passes_of (X := cxOf (L2.CX P w) P w K mg base n_redone "redone" (defScope s_redone) f cdv Ar outer s H E) rfl
  exact (pdss_cons (pds_if (pdt_eq hw (pd_ix hu (pd_v 1) pd_int) (pd_str (by decide +kernel))) (pdss_one (pds_ret (pd_frz (pd_methH tk (pd_v 0) T.cl_Room h_room_come (hr.mono (by decide)) (pda_cons (pd_ix hu (pd_v 1) pd_int) (pda_cons (pd_ix hu (pd_v 1) pd_int) pda_nil)))))) pdss_nil)
      (pdss_cons (pds_if (pdt_eq hw (pd_ix hu (pd_v 1) pd_int) (pd_str (by decide +kernel))) (pdss_one (pds_ret (pd_frz (pd_methH tk (pd_v 0) T.cl_Room h_room_leave (hr.mono (by decide)) (pda_cons (pd_ix hu (pd_v 1) pd_int) pda_nil))))) pdss_nil)
      (pdss_cons (pds_if (pdt_eq hw (pd_ix hu (pd_v 1) pd_int) (pd_str (by decide +kernel))) (pdss_one (pds_ret (pd_frz (pd_methH tk (pd_v 0) T.cl_Room h_room_ask (hr.mono (by decide)) (pda_cons (pd_ix hu (pd_v 1) pd_int) pda_nil))))) pdss_nil)
      (pdss_one (pds_ret (pd_frz (pd_methH tk (pd_v 0) T.cl_Room h_room_ease (hr.mono (by decide)) (pda_cons (pd_ix hu (pd_v 1) pd_int) pda_nil))))))))
abbrev s_gone_through : Stmt := topS 30
abbrev n_gone_through : List Str := ["room", "rows", "due", "place", "row"]
theorem sc_gone_through : FnScope n_gone_through ["room", "rows"] (defScope s_gone_through) := ⟨rfl, rfl, rfl, by decide +kernel, rfl, by decide +kernel, by decide +kernel⟩
theorem ok_gone_through {f : Addr} {fd : FuncData} (F : Fun K "gone_through" "gone_through" s_gone_through f fd) (T : Txt K mg A) (h_is_row : Has P w K mg base "is_row" ["row"] 1 m_is_row) (h_redone : Has P w K mg base "redone" ["room", "row"] 6 (m_redone A)) : FnD P w K mg base 7 f fd ["room", "rows"] (m_gone_through A) := by
  refine DL.okD (N := n_gone_through) F sc_gone_through (len_gone_through A) (by decide) (fun cdv Ar outer s H E hr => ?_) (read_gone_through K A (fun c => match c with | .name => T.e_BadName_RoomError | .wish => T.e_BadWish_RoomError | .known => T.e_Known_RoomError | .stranger => T.e_Stranger_RoomError | .outside => T.e_Outside_RoomError | .reads => T.e_Reads_RoomError | .writes => T.e_Writes_RoomError | .asked => T.e_Asked_RoomError))
  have hu := hu_of hr
  have hw := hr.units
  have nd := sc_gone_through.nd
  have tk : Takes (cxOf (L2.CX P w) P w K mg base n_gone_through "gone_through" (defScope s_gone_through) f cdv Ar outer s H E) (WE0 E) := takes_of rfl rfl rfl rfl
  have hp : PassesOwn (model P w) (Ar.deeper (envOfC "gone_through" (defScope s_gone_through) s.heap.objs.size f cdv)) (envOfC "gone_through" (defScope s_gone_through) s.heap.objs.size f cdv) (cxOf (L2.CX P w) P w K mg base n_gone_through "gone_through" (defScope s_gone_through) f cdv Ar outer s H E).xe := passes_of (X := cxOf (L2.CX P w) P w K mg base n_gone_through "gone_through" (defScope s_gone_through) f cdv Ar outer s H E) rfl
  exact (pdss_cons (pds_set (i := 2) nd rfl (Or.inl rfl) (pd_lst pda_nil))
      (pdss_cons (pds_for hp rfl (pdi_enum rfl T.b_enumerate (pda_cons (pd_v 1) pda_nil)) (pdg_pair (i := 3) (j := 4) rfl nd rfl (Or.inl rfl) rfl (Or.inl rfl)) (pdss_cons (pds_if (pdt_not (pdt_val (pd_callH tk h_is_row (hr.mono (by decide)) rfl (pda_cons (pd_v 4) pda_nil)))) (pdss_one (pds_ret (pd_v 3))) pdss_nil)
      (pdss_one (pds_if (pdt_ne hw (pd_v 2) (pd_lst pda_nil)) (pdss_cons (pds_if (pdt_ne hw (pd_v 4) (pd_tup (pda_cons (pd_str (by decide +kernel)) (pda_cons (pd_ix hu (pd_ix hu (pd_v 2) pd_int) pd_int) (pda_cons (pd_ix hu (pd_ix hu (pd_v 2) pd_int) pd_int) pda_nil))))) (pdss_one (pds_ret (pd_v 3))) pdss_nil)
      (pdss_one (pds_set (i := 2) nd rfl (Or.inl rfl) (pd_slice (pd_v 2) (pdo_some pd_int) pdo_none)))) (pdss_one (pds_if (pdt_eq hw (pd_ix hu (pd_v 4) pd_int) (pd_str (by decide +kernel))) (pdss_one (pds_ret (pd_v 3))) (pdss_one (pds_try rfl rfl ⟨rfl, by decide, .inl T.mg_RoomError⟩ tk (fun _ _ _ tk hp => (pdss_one (pds_set (i := 2) nd rfl (Or.inl rfl) (pd_callH tk h_redone (hr.mono (by decide)) rfl (pda_cons (pd_v 0) (pda_cons (pd_v 4) pda_nil)))))) (fun _ _ _ _ _ _ _ => (pdss_one (pds_ret (pd_v 3))))))))))))
      (pdss_cons (pds_if (pdt_ne hw (pd_v 2) (pd_lst pda_nil)) (pdss_one (pds_ret (pd_callB call_len l_len rfl T.b_len (by decide +kernel) (pda_cons (pd_v 1) pda_nil)))) pdss_nil)
      (pdss_one (pds_ret pd_non)))))
abbrev s_is_number : Stmt := topS 21
abbrev n_is_number : List Str := ["thing", "least"]
theorem sc_is_number : FnScope n_is_number ["thing", "least"] (defScope s_is_number) := ⟨rfl, rfl, rfl, by decide +kernel, rfl, by decide +kernel, by decide +kernel⟩
theorem ok_is_number {f : Addr} {fd : FuncData} (F : Fun K "is_number" "is_number" s_is_number f fd) (T : Txt K mg A)  : FnD P w K mg base 1 f fd ["thing", "least"] m_is_number := by
  refine DL.okD (N := n_is_number) F sc_is_number len_is_number (by decide) (fun cdv Ar outer s H E hr => ?_) read_is_number
  have hu := hu_of hr
  have hw := hr.units
  have nd := sc_is_number.nd
  have tk : Takes (cxOf (L2.CX P w) P w K mg base n_is_number "is_number" (defScope s_is_number) f cdv Ar outer s H E) (WE0 E) := takes_of rfl rfl rfl rfl
  have hp : PassesOwn (model P w) (Ar.deeper (envOfC "is_number" (defScope s_is_number) s.heap.objs.size f cdv)) (envOfC "is_number" (defScope s_is_number) s.heap.objs.size f cdv) (cxOf (L2.CX P w) P w K mg base n_is_number "is_number" (defScope s_is_number) f cdv Ar outer s H E).xe := passes_of (X := cxOf (L2.CX P w) P w K mg base n_is_number "is_number" (defScope s_is_number) f cdv Ar outer s H E) rfl
  exact (pdss_one (pds_ret (pd_and (pd_callB call_isi l_isi rfl T.b_isinstance (by decide +kernel) (pda_cons (pd_v 0) (pda_cons (pd_bltn rfl T.b_int (by decide +kernel)) pda_nil))) (pd_and (pd_not (pd_callB call_isi l_isi rfl T.b_isinstance (by decide +kernel) (pda_cons (pd_v 0) (pda_cons (pd_bltn rfl T.b_bool (by decide +kernel)) pda_nil)))) (pd_one (pd_chain op_le op_le l_cmp l_cmp (pd_v 1) (pd_v 0) (pd_globE (v := .int 1000000000) rfl T.mg_MOST (fun _ => .int _))))))))
abbrev s_room_init : Stmt := inClass (topS 26) 0
abbrev n_room_init : List Str := ["self", "seats", "patience"]
theorem sc_room_init : FnScope n_room_init ["self", "seats", "patience"] (defScope s_room_init) := ⟨rfl, rfl, rfl, by decide +kernel, rfl, by decide +kernel, by decide +kernel⟩
theorem ok_room_init {f : Addr} {fd : FuncData} (F : Fun K "__init__" "Room.__init__" s_room_init f fd) (T : Txt K mg A) (h_is_number : Has P w K mg base "is_number" ["thing", "least"] 1 m_is_number) : FnD P w K mg base 2 f fd ["self", "seats", "patience"] (m_room_init A) := by
  refine DL.okD (N := n_room_init) F sc_room_init (len_room_init A) (by decide) (fun cdv Ar outer s H E hr => ?_) (read_room_init A)
  have hu := hu_of hr
  have hw := hr.units
  have nd := sc_room_init.nd
  have tk : Takes (cxOf (L2.CX P w) P w K mg base n_room_init "Room.__init__" (defScope s_room_init) f cdv Ar outer s H E) (WE0 E) := takes_of rfl rfl rfl rfl
  have hp : PassesOwn (model P w) (Ar.deeper (envOfC "Room.__init__" (defScope s_room_init) s.heap.objs.size f cdv)) (envOfC "Room.__init__" (defScope s_room_init) s.heap.objs.size f cdv) (cxOf (L2.CX P w) P w K mg base n_room_init "Room.__init__" (defScope s_room_init) f cdv Ar outer s H E).xe := passes_of (X := cxOf (L2.CX P w) P w K mg base n_room_init "Room.__init__" (defScope s_room_init) f cdv Ar outer s H E) rfl
  exact (pdss_cons (pds_if (pdt_w (pdw_or (pdt_not (pdt_val (pd_callH tk h_is_number (hr.mono (by decide)) rfl (pda_cons (pd_v 1) (pda_cons pd_int pda_nil))))) (pdw_or1 (pdt_not (pdt_val (pd_callH tk h_is_number (hr.mono (by decide)) rfl (pda_cons (pd_v 2) (pda_cons pd_int pda_nil)))))))) (pdss_one (pds_raise tk rfl PySem.F.excBase_ValueError T.x_BadNumber T.mg_BadNumber T.k_BadNumber (raises_own T.s_BadNumber T.t_BadNumber) rfl)) pdss_nil)
      (pdss_cons (pds_fld T.cl_Room T.no_seats (pd_v 0) (pd_v 1))
      (pdss_cons (pds_fld T.cl_Room T.no_patience (pd_v 0) (pd_v 2))
      (pdss_cons (pds_fld T.cl_Room T.no_reading (pd_v 0) (pd_lst pda_nil))
      (pdss_cons (pds_fld T.cl_Room T.no_alone (pd_v 0) pd_non)
      (pdss_cons (pds_fld T.cl_Room T.no_asking (pd_v 0) pd_non)
      (pdss_cons (pds_fld T.cl_Room T.no_waiting (pd_v 0) (pd_lst pda_nil))
      (pdss_one (pds_fld T.cl_Room T.no_rows (pd_v 0) (pd_lst pda_nil))))))))))
abbrev s_judged : Stmt := topS 31
abbrev n_judged : List Str := ["seats", "patience", "rows"]
theorem sc_judged : FnScope n_judged ["seats", "patience", "rows"] (defScope s_judged) := ⟨rfl, rfl, rfl, by decide +kernel, rfl, by decide +kernel, by decide +kernel⟩
theorem ok_judged {f : Addr} {fd : FuncData} (F : Fun K "judged" "judged" s_judged f fd) (T : Txt K mg A) (h_gone_through : Has P w K mg base "gone_through" ["room", "rows"] 7 (m_gone_through A)) (h_room_init : HasI P w K mg base A.Room ["self", "seats", "patience"] 2 (m_room_init A)) : FnD P w K mg base 8 f fd ["seats", "patience", "rows"] (m_judged A) := by
  refine DL.okD (N := n_judged) F sc_judged (len_judged A) (by decide) (fun cdv Ar outer s H E hr => ?_) (read_judged A)
  have hu := hu_of hr
  have hw := hr.units
  have nd := sc_judged.nd
  have tk : Takes (cxOf (L2.CX P w) P w K mg base n_judged "judged" (defScope s_judged) f cdv Ar outer s H E) (WE0 E) := takes_of rfl rfl rfl rfl
  have hp : PassesOwn (model P w) (Ar.deeper (envOfC "judged" (defScope s_judged) s.heap.objs.size f cdv)) (envOfC "judged" (defScope s_judged) s.heap.objs.size f cdv) (cxOf (L2.CX P w) P w K mg base n_judged "judged" (defScope s_judged) f cdv Ar outer s H E).xe := passes_of (X := cxOf (L2.CX P w) P w K mg base n_judged "judged" (defScope s_judged) f cdv Ar outer s H E) rfl
  exact (pdss_one (pds_ret (pd_callH tk h_gone_through (hr.mono (by decide)) rfl (pda_cons (pd_makeH tk h_room_init (hr.mono (by decide)) rfl T.mg_Room (pda_cons (pd_v 0) (pda_cons (pd_v 1) pda_nil))) (pda_cons (pd_v 2) pda_nil)))))
abbrev s_room_of : Stmt := topS 32
abbrev n_room_of : List Str := ["seats", "patience", "rows", "room"]
theorem sc_room_of : FnScope n_room_of ["seats", "patience", "rows"] (defScope s_room_of) := ⟨rfl, rfl, rfl, by decide +kernel, rfl, by decide +kernel, by decide +kernel⟩
theorem ok_room_of {f : Addr} {fd : FuncData} (F : Fun K "room_of" "room_of" s_room_of f fd) (T : Txt K mg A) (h_room_init : HasI P w K mg base A.Room ["self", "seats", "patience"] 2 (m_room_init A)) (h_gone_through : Has P w K mg base "gone_through" ["room", "rows"] 7 (m_gone_through A)) : FnD P w K mg base 8 f fd ["seats", "patience", "rows"] (m_room_of A) := by
  refine DL.okD (N := n_room_of) F sc_room_of (len_room_of A) (by decide) (fun cdv Ar outer s H E hr => ?_) (read_room_of A)
  have hu := hu_of hr
  have hw := hr.units
  have nd := sc_room_of.nd
  have tk : Takes (cxOf (L2.CX P w) P w K mg base n_room_of "room_of" (defScope s_room_of) f cdv Ar outer s H E) (WE0 E) := takes_of rfl rfl rfl rfl
  have hp : PassesOwn (model P w) (Ar.deeper (envOfC "room_of" (defScope s_room_of) s.heap.objs.size f cdv)) (envOfC "room_of" (defScope s_room_of) s.heap.objs.size f cdv) (cxOf (L2.CX P w) P w K mg base n_room_of "room_of" (defScope s_room_of) f cdv Ar outer s H E).xe := passes_of (X := cxOf (L2.CX P w) P w K mg base n_room_of "room_of" (defScope s_room_of) f cdv Ar outer s H E) rfl
  exact (pdss_cons (pds_set (i := 3) nd rfl (Or.inl rfl) (pd_makeH tk h_room_init (hr.mono (by decide)) rfl T.mg_Room (pda_cons (pd_v 0) (pda_cons (pd_v 1) pda_nil))))
      (pdss_cons (pds_if (pdt_notN (pd_callH tk h_gone_through (hr.mono (by decide)) rfl (pda_cons (pd_v 3) (pda_cons (pd_v 2) pda_nil)))) (pdss_one (pds_raise tk rfl PySem.F.excBase_ValueError T.x_BadJournal T.mg_BadJournal T.k_BadJournal (raises_own T.s_BadJournal T.t_BadJournal) rfl)) pdss_nil)
      (pdss_one (pds_ret (pd_v 3)))))
abbrev s_l_refuses : Stmt := topS 60
abbrev n_l_refuses : List Str := ["_law_seats_here", "_law_patience_here", "_law_rows", "_law_refused_here"]
theorem sc_l_refuses : FnScope n_l_refuses ["_law_seats_here", "_law_patience_here", "_law_rows"] (defScope s_l_refuses) := ⟨rfl, rfl, rfl, by decide +kernel, rfl, by decide +kernel, by decide +kernel⟩
theorem ok_l_refuses {f : Addr} {fd : FuncData} (F : Fun K "_law_refuses" "_law_refuses" s_l_refuses f fd) (T : Txt K mg A) (h_judged : Has P w K mg base "judged" ["seats", "patience", "rows"] 8 (m_judged A)) (h_room_of : Has P w K mg base "room_of" ["seats", "patience", "rows"] 8 (m_room_of A)) : FnD P w K mg base 9 f fd ["_law_seats_here", "_law_patience_here", "_law_rows"] (m_l_refuses A) := by
  refine DL.okD (N := n_l_refuses) F sc_l_refuses (len_l_refuses A) (by decide) (fun cdv Ar outer s H E hr => ?_) (read_l_refuses K A T.e_BadNumber_BadNumber)
  have hu := hu_of hr
  have hw := hr.units
  have nd := sc_l_refuses.nd
  have tk : Takes (cxOf (L2.CX P w) P w K mg base n_l_refuses "_law_refuses" (defScope s_l_refuses) f cdv Ar outer s H E) (WE0 E) := takes_of rfl rfl rfl rfl
  have hp : PassesOwn (model P w) (Ar.deeper (envOfC "_law_refuses" (defScope s_l_refuses) s.heap.objs.size f cdv)) (envOfC "_law_refuses" (defScope s_l_refuses) s.heap.objs.size f cdv) (cxOf (L2.CX P w) P w K mg base n_l_refuses "_law_refuses" (defScope s_l_refuses) f cdv Ar outer s H E).xe := passes_of (X := cxOf (L2.CX P w) P w K mg base n_l_refuses "_law_refuses" (defScope s_l_refuses) f cdv Ar outer s H E) rfl
  exact (pdss_cons (pds_set (i := 3) nd rfl (Or.inl rfl) pd_int)
      (pdss_cons (pds_try rfl rfl ⟨rfl, by decide, .inl T.mg_BadNumber⟩ tk (fun _ _ _ tk hp => (pdss_one (pds_expr (pd_callH tk h_judged (hr.mono (by decide)) rfl (pda_cons (pd_v 0) (pda_cons (pd_v 1) (pda_cons (pd_v 2) pda_nil))))))) (fun _ _ _ _ _ _ _ => (pdss_one (pds_set (i := 3) nd rfl (Or.inl rfl) (pd_add (pd_v 3) pd_int)))))
      (pdss_cons (pds_try rfl rfl ⟨rfl, by decide, .inl T.mg_BadNumber⟩ tk (fun _ _ _ tk hp => (pdss_one (pds_expr (pd_callH tk h_room_of (hr.mono (by decide)) rfl (pda_cons (pd_v 0) (pda_cons (pd_v 1) (pda_cons (pd_v 2) pda_nil))))))) (fun _ _ _ _ _ _ _ => (pdss_one (pds_set (i := 3) nd rfl (Or.inl rfl) (pd_add (pd_v 3) pd_int)))))
      (pdss_one (pds_ret (pd_eq hw (pd_v 3) pd_int))))))
abbrev s_l_name : Stmt := topS 53
abbrev n_l_name : List Str := ["_law_thing", "_law_some", "_law_sign"]
theorem sc_l_name : FnScope n_l_name ["_law_thing"] (defScope s_l_name) := ⟨rfl, rfl, rfl, by decide +kernel, rfl, by decide +kernel, by decide +kernel⟩
theorem ok_l_name {f : Addr} {fd : FuncData} (F : Fun K "_law_name" "_law_name" s_l_name f fd) (T : Txt K mg A)  : FnD P w K mg base 1 f fd ["_law_thing"] m_l_name := by
  refine DL.okD (N := n_l_name) F sc_l_name len_l_name (by decide) (fun cdv Ar outer s H E hr => ?_) read_l_name
  have hu := hu_of hr
  have hw := hr.units
  have nd := sc_l_name.nd
  have tk : Takes (cxOf (L2.CX P w) P w K mg base n_l_name "_law_name" (defScope s_l_name) f cdv Ar outer s H E) (WE0 E) := takes_of rfl rfl rfl rfl
  have hp : PassesOwn (model P w) (Ar.deeper (envOfC "_law_name" (defScope s_l_name) s.heap.objs.size f cdv)) (envOfC "_law_name" (defScope s_l_name) s.heap.objs.size f cdv) (cxOf (L2.CX P w) P w K mg base n_l_name "_law_name" (defScope s_l_name) f cdv Ar outer s H E).xe := passes_of (X := cxOf (L2.CX P w) P w K mg base n_l_name "_law_name" (defScope s_l_name) f cdv Ar outer s H E) rfl
  exact (pdss_cons (pds_if (pdt_w (pdw_or (pdt_not (pdt_val (pd_callB call_isi l_isi rfl T.b_isinstance (by decide +kernel) (pda_cons (pd_v 0) (pda_cons (pd_bltn rfl T.b_str (by decide +kernel)) pda_nil))))) (pdw_or (pdt_lt (pd_callB call_len l_len rfl T.b_len (by decide +kernel) (pda_cons (pd_v 0) pda_nil)) pd_int) (pdw_or1 (pdt_gt (pd_callB call_len l_len rfl T.b_len (by decide +kernel) (pda_cons (pd_v 0) pda_nil)) pd_int))))) (pdss_one (pds_ret pd_bl)) pdss_nil)
      (pdss_cons (pds_set (i := 1) nd rfl (Or.inr rfl) (pd_str (by decide +kernel)))
      (pdss_one (pds_ret (pd_eq hw (pd_lc rfl nd (pdi_any (pd_v 0)) (blkOk_by (own := [("_law_sign", 2)]) (N := n_l_name) (sc := defScope s_l_name) (by decide +kernel)) (fun _ _ _ _ _ => pg_name (i := 2) nd rfl (Or.inl rfl)) (fun _ _ _ _ _ => (pdts_one (pdt_notIn (pd_v 2) (pd_v 1)))) (fun _ _ _ _ _ => (pd_v 2))) (pd_lst pda_nil))))))
abbrev s_l_formed : Stmt := topS 54
abbrev n_l_formed : List Str := ["_law_row_here", "_law_word"]
theorem sc_l_formed : FnScope n_l_formed ["_law_row_here"] (defScope s_l_formed) := ⟨rfl, rfl, rfl, by decide +kernel, rfl, by decide +kernel, by decide +kernel⟩
theorem ok_l_formed {f : Addr} {fd : FuncData} (F : Fun K "_law_formed" "_law_formed" s_l_formed f fd) (T : Txt K mg A) (h_l_name : Has P w K mg base "_law_name" ["_law_thing"] 1 m_l_name) : FnD P w K mg base 2 f fd ["_law_row_here"] m_l_formed := by
  refine DL.okD (N := n_l_formed) F sc_l_formed len_l_formed (by decide) (fun cdv Ar outer s H E hr => ?_) read_l_formed
  have hu := hu_of hr
  have hw := hr.units
  have nd := sc_l_formed.nd
  have tk : Takes (cxOf (L2.CX P w) P w K mg base n_l_formed "_law_formed" (defScope s_l_formed) f cdv Ar outer s H E) (WE0 E) := takes_of rfl rfl rfl rfl
  have hp : PassesOwn (model P w) (Ar.deeper (envOfC "_law_formed" (defScope s_l_formed) s.heap.objs.size f cdv)) (envOfC "_law_formed" (defScope s_l_formed) s.heap.objs.size f cdv) (cxOf (L2.CX P w) P w K mg base n_l_formed "_law_formed" (defScope s_l_formed) f cdv Ar outer s H E).xe := passes_of (X := cxOf (L2.CX P w) P w K mg base n_l_formed "_law_formed" (defScope s_l_formed) f cdv Ar outer s H E) rfl
  exact (pdss_cons (pds_if (pdt_w (pdw_or (pdt_not (pdt_val (pd_callB call_isi l_isi rfl T.b_isinstance (by decide +kernel) (pda_cons (pd_v 0) (pda_cons (pd_bltn rfl T.b_tuple (by decide +kernel)) pda_nil))))) (pdw_or (pdt_lt (pd_callB call_len l_len rfl T.b_len (by decide +kernel) (pda_cons (pd_v 0) pda_nil)) pd_int) (pdw_or1 (pdt_gt (pd_callB call_len l_len rfl T.b_len (by decide +kernel) (pda_cons (pd_v 0) pda_nil)) pd_int))))) (pdss_one (pds_ret pd_bl)) pdss_nil)
      (pdss_cons (pds_if (pdt_w (pdw_or (pdt_ne hw (pd_lc rfl nd (pdi_any (pd_v 0)) (blkOk_by (own := [("_law_word", 1)]) (N := n_l_formed) (sc := defScope s_l_formed) (by decide +kernel)) (fun _ _ _ _ _ => pg_name (i := 1) nd rfl (Or.inl rfl)) (fun _ _ _ _ _ => (pdts_one (pdt_not (pdt_val (pd_callB call_isi l_isi rfl T.b_isinstance (by decide +kernel) (pda_cons (pd_v 1) (pda_cons (pd_bltn rfl T.b_str (by decide +kernel)) pda_nil))))))) (fun _ _ _ _ _ => (pd_v 1))) (pd_lst pda_nil)) (pdw_or1 (pdt_not (pdt_val (pd_callH tk h_l_name (hr.mono (by decide)) rfl (pda_cons (pd_ix hu (pd_v 0) pd_int) pda_nil))))))) (pdss_one (pds_ret pd_bl)) pdss_nil)
      (pdss_cons (pds_if (pdt_eq hw (pd_callB call_len l_len rfl T.b_len (by decide +kernel) (pda_cons (pd_v 0) pda_nil)) pd_int) (pdss_one (pds_ret (pd_and (pd_in (pd_ix hu (pd_v 0) pd_int) (pd_lst (pda_cons (pd_str (by decide +kernel)) (pda_cons (pd_str (by decide +kernel)) pda_nil)))) (pd_one (pd_in (pd_ix hu (pd_v 0) pd_int) (pd_lst (pda_cons (pd_str (by decide +kernel)) (pda_cons (pd_str (by decide +kernel)) pda_nil)))))))) pdss_nil)
      (pdss_one (pds_ret (pd_in (pd_ix hu (pd_v 0) pd_int) (pd_lst (pda_cons (pd_str (by decide +kernel)) (pda_cons (pd_str (by decide +kernel)) (pda_cons (pd_str (by decide +kernel)) pda_nil))))))))))
abbrev s_l_gone : Stmt := topS 59
abbrev n_l_gone : List Str := ["_law_rows", "_law_seats_here", "_law_patience_here", "_law_now", "_law_k", "_law_place"]
theorem sc_l_gone : FnScope n_l_gone ["_law_rows", "_law_seats_here", "_law_patience_here"] (defScope s_l_gone) := ⟨rfl, rfl, rfl, by decide +kernel, rfl, by decide +kernel, by decide +kernel⟩
theorem ok_l_gone {f : Addr} {fd : FuncData} (F : Fun K "_law_gone" "_law_gone" s_l_gone f fd) (T : Txt K mg A) (h_l_fresh : Has P w K mg base "_law_fresh" [] 1 m_l_fresh) (h_l_next : Has P w K mg base "_law_next" ["_law_now", "_law_seats_here", "_law_patience_here"] 1 m_l_next) (h_l_pair : Has P w K mg base "_law_pair" ["_law_now", "_law_place"] 1 m_l_pair) (h_l_began : Has P w K mg base "_law_began" ["_law_now", "_law_place"] 1 m_l_began) (h_l_refused : Has P w K mg base "_law_refused" ["_law_now", "_law_deed"] 2 m_l_refused) (h_l_formed : Has P w K mg base "_law_formed" ["_law_row_here"] 2 m_l_formed) (h_l_deed_done : Has P w K mg base "_law_deed_done" ["_law_now", "_law_deed"] 1 m_l_deed_done) : FnD P w K mg base 3 f fd ["_law_rows", "_law_seats_here", "_law_patience_here"] m_l_gone := by
  refine DL.okD (N := n_l_gone) F sc_l_gone len_l_gone (by decide) (fun cdv Ar outer s H E hr => ?_) read_l_gone
  have hu := hu_of hr
  have hw := hr.units
  have nd := sc_l_gone.nd
  have tk : Takes (cxOf (L2.CX P w) P w K mg base n_l_gone "_law_gone" (defScope s_l_gone) f cdv Ar outer s H E) (WE0 E) := takes_of rfl rfl rfl rfl
  have hp : PassesOwn (model P w) (Ar.deeper (envOfC "_law_gone" (defScope s_l_gone) s.heap.objs.size f cdv)) (envOfC "_law_gone" (defScope s_l_gone) s.heap.objs.size f cdv) (cxOf (L2.CX P w) P w K mg base n_l_gone "_law_gone" (defScope s_l_gone) f cdv Ar outer s H E).xe := passes_of (X := cxOf (L2.CX P w) P w K mg base n_l_gone "_law_gone" (defScope s_l_gone) f cdv Ar outer s H E) rfl
  exact (pdss_cons (pds_set (i := 3) nd rfl (Or.inl rfl) (pd_call0H tk h_l_fresh (hr.mono (by decide)) rfl))
      (pdss_cons (pds_for hp rfl (pdi_range1 rfl T.b_range (pda_cons (pd_callB call_len l_len rfl T.b_len (by decide +kernel) (pda_cons (pd_v 0) pda_nil)) pda_nil)) (pdg_name (i := 4) nd rfl (Or.inl rfl)) (pdss_cons (pds_set (i := 5) nd rfl (Or.inl rfl) (pd_callH tk h_l_next (hr.mono (by decide)) rfl (pda_cons (pd_v 3) (pda_cons (pd_v 1) (pda_cons (pd_v 2) pda_nil)))))
      (pdss_one (pds_if (pdt_notN (pd_v 5)) (pdss_cons (pds_if (pdt_neX hw (pd_ix hu (pd_v 0) (pd_v 4)) (pd_add (pd_tup (pda_cons (pd_str (by decide +kernel)) pda_nil)) (pd_callH tk h_l_pair (hr.mono (by decide)) rfl (pda_cons (pd_v 3) (pda_cons (pd_v 5) pda_nil))))) (pdss_one (pds_ret (pd_v 4))) pdss_nil)
      (pdss_one (pds_set (i := 3) nd rfl (Or.inl rfl) (pd_callH tk h_l_began (hr.mono (by decide)) rfl (pda_cons (pd_v 3) (pda_cons (pd_v 5) pda_nil)))))) (pdss_cons (pds_if (pdt_w (pdw_or (pdt_not (pdt_val (pd_callH tk h_l_formed (hr.mono (by decide)) rfl (pda_cons (pd_ix hu (pd_v 0) (pd_v 4)) pda_nil)))) (pdw_or (pdt_eqX hw (pd_ix hu (pd_ix hu (pd_v 0) (pd_v 4)) pd_int) (pd_str (by decide +kernel))) (pdw_or1 (pdt_val (pd_callH tk h_l_refused (hr.mono (by decide)) rfl (pda_cons (pd_v 3) (pda_cons (pd_ix hu (pd_v 0) (pd_v 4)) pda_nil)))))))) (pdss_one (pds_ret (pd_v 4))) pdss_nil)
      (pdss_one (pds_set (i := 3) nd rfl (Or.inl rfl) (pd_callH tk h_l_deed_done (hr.mono (by decide)) rfl (pda_cons (pd_v 3) (pda_cons (pd_ix hu (pd_v 0) (pd_v 4)) pda_nil))))))))))
      (pdss_cons (pds_if (pdt_notN (pd_callH tk h_l_next (hr.mono (by decide)) rfl (pda_cons (pd_v 3) (pda_cons (pd_v 1) (pda_cons (pd_v 2) pda_nil))))) (pdss_one (pds_ret (pd_callB call_len l_len rfl T.b_len (by decide +kernel) (pda_cons (pd_v 0) pda_nil)))) pdss_nil)
      (pdss_one (pds_ret pd_non)))))
abbrev s_l_whole : Stmt := topS 35
abbrev n_l_whole : List Str := ["_law_found"]
theorem sc_l_whole : FnScope n_l_whole ["_law_found"] (defScope s_l_whole) := ⟨rfl, rfl, rfl, by decide +kernel, rfl, by decide +kernel, by decide +kernel⟩
theorem ok_l_whole {f : Addr} {fd : FuncData} (F : Fun K "_law_whole" "_law_whole" s_l_whole f fd) (T : Txt K mg A)  : FnD P w K mg base 1 f fd ["_law_found"] m_l_whole := by
  refine DL.okD (N := n_l_whole) F sc_l_whole len_l_whole (by decide) (fun cdv Ar outer s H E hr => ?_) read_l_whole
  have hu := hu_of hr
  have hw := hr.units
  have nd := sc_l_whole.nd
  have tk : Takes (cxOf (L2.CX P w) P w K mg base n_l_whole "_law_whole" (defScope s_l_whole) f cdv Ar outer s H E) (WE0 E) := takes_of rfl rfl rfl rfl
  have hp : PassesOwn (model P w) (Ar.deeper (envOfC "_law_whole" (defScope s_l_whole) s.heap.objs.size f cdv)) (envOfC "_law_whole" (defScope s_l_whole) s.heap.objs.size f cdv) (cxOf (L2.CX P w) P w K mg base n_l_whole "_law_whole" (defScope s_l_whole) f cdv Ar outer s H E).xe := passes_of (X := cxOf (L2.CX P w) P w K mg base n_l_whole "_law_whole" (defScope s_l_whole) f cdv Ar outer s H E) rfl
  exact (pdss_one (pds_ret (pd_and (pd_callB call_isi l_isi rfl T.b_isinstance (by decide +kernel) (pda_cons (pd_v 0) (pda_cons (pd_bltn rfl T.b_int (by decide +kernel)) pda_nil))) (pd_one (pd_not (pd_callB call_isi l_isi rfl T.b_isinstance (by decide +kernel) (pda_cons (pd_v 0) (pda_cons (pd_bltn rfl T.b_bool (by decide +kernel)) pda_nil))))))))
abbrev s_l_told : Stmt := topS 61
abbrev n_l_told : List Str := ["_law_found", "_law_due"]
theorem sc_l_told : FnScope n_l_told ["_law_found", "_law_due"] (defScope s_l_told) := ⟨rfl, rfl, rfl, by decide +kernel, rfl, by decide +kernel, by decide +kernel⟩
theorem ok_l_told {f : Addr} {fd : FuncData} (F : Fun K "_law_told" "_law_told" s_l_told f fd) (T : Txt K mg A) (h_l_whole : Has P w K mg base "_law_whole" ["_law_found"] 1 m_l_whole) : FnD P w K mg base 2 f fd ["_law_found", "_law_due"] m_l_told := by
  refine DL.okD (N := n_l_told) F sc_l_told len_l_told (by decide) (fun cdv Ar outer s H E hr => ?_) read_l_told
  have hu := hu_of hr
  have hw := hr.units
  have nd := sc_l_told.nd
  have tk : Takes (cxOf (L2.CX P w) P w K mg base n_l_told "_law_told" (defScope s_l_told) f cdv Ar outer s H E) (WE0 E) := takes_of rfl rfl rfl rfl
  have hp : PassesOwn (model P w) (Ar.deeper (envOfC "_law_told" (defScope s_l_told) s.heap.objs.size f cdv)) (envOfC "_law_told" (defScope s_l_told) s.heap.objs.size f cdv) (cxOf (L2.CX P w) P w K mg base n_l_told "_law_told" (defScope s_l_told) f cdv Ar outer s H E).xe := passes_of (X := cxOf (L2.CX P w) P w K mg base n_l_told "_law_told" (defScope s_l_told) f cdv Ar outer s H E) rfl
  exact (pdss_cons (pds_if (pdt_isN (pd_v 1)) (pdss_one (pds_ret (pd_isN (pd_v 0)))) pdss_nil)
      (pdss_one (pds_ret (pd_and (pd_callH tk h_l_whole (hr.mono (by decide)) rfl (pda_cons (pd_v 0) pda_nil)) (pd_one (pd_eq hw (pd_v 0) (pd_v 1)))))))
abbrev s_l_refused_rows : Stmt := topS 62
abbrev n_l_refused_rows : List Str := ["_law_seats_here", "_law_patience_here", "_law_rows", "_law_handed", "e"]
theorem sc_l_refused_rows : FnScope n_l_refused_rows ["_law_seats_here", "_law_patience_here", "_law_rows"] (defScope s_l_refused_rows) := ⟨rfl, rfl, rfl, by decide +kernel, rfl, by decide +kernel, by decide +kernel⟩
theorem ok_l_refused_rows {f : Addr} {fd : FuncData} (F : Fun K "_law_refused_rows" "_law_refused_rows" s_l_refused_rows f fd) (T : Txt K mg A) (h_room_of : Has P w K mg base "room_of" ["seats", "patience", "rows"] 8 (m_room_of A)) : FnD P w K mg base 9 f fd ["_law_seats_here", "_law_patience_here", "_law_rows"] (m_l_refused_rows A) := by
  refine DL.okD (N := n_l_refused_rows) F sc_l_refused_rows (len_l_refused_rows A) (by decide) (fun cdv Ar outer s H E hr => ?_) (read_l_refused_rows K A T.e_BadJournal_RoomError ⟨T.ec_BadJournal, T.i_BadJournal_Asked, T.i_BadJournal_BadName, T.i_BadJournal_BadNumber, T.i_BadJournal_BadText, T.i_BadJournal_BadWish, T.i_BadJournal_Inside, T.i_BadJournal_Known, T.i_BadJournal_Outside, T.i_BadJournal_Reads, T.i_BadJournal_Stranger, T.i_BadJournal_Writes, T.i_BadJournal_BadJournal, T.i_BadJournal_ValueError⟩)
  have hu := hu_of hr
  have hw := hr.units
  have nd := sc_l_refused_rows.nd
  have tk : Takes (cxOf (L2.CX P w) P w K mg base n_l_refused_rows "_law_refused_rows" (defScope s_l_refused_rows) f cdv Ar outer s H E) (WE0 E) := takes_of rfl rfl rfl rfl
  have hp : PassesOwn (model P w) (Ar.deeper (envOfC "_law_refused_rows" (defScope s_l_refused_rows) s.heap.objs.size f cdv)) (envOfC "_law_refused_rows" (defScope s_l_refused_rows) s.heap.objs.size f cdv) (cxOf (L2.CX P w) P w K mg base n_l_refused_rows "_law_refused_rows" (defScope s_l_refused_rows) f cdv Ar outer s H E).xe := passes_of (X := cxOf (L2.CX P w) P w K mg base n_l_refused_rows "_law_refused_rows" (defScope s_l_refused_rows) f cdv Ar outer s H E) rfl
  exact (pdss_cons (pds_set (i := 3) nd rfl (Or.inl rfl) (pd_callTy call_list_of l_listF rfl T.b_list (by decide +kernel) (pda_cons (pd_v 2) pda_nil)))
      (pdss_cons (pds_tryAs (i := 4) rfl rfl nd rfl rfl ⟨rfl, by decide, .inl T.mg_RoomError⟩ tk (fun _ _ _ tk hp => (pdss_one (pds_expr (pd_callH tk h_room_of (hr.mono (by decide)) rfl (pda_cons (pd_v 0) (pda_cons (pd_v 1) (pda_cons (pd_v 3) pda_nil))))))) (fun ea ec oe pn hz hf => (pdss_cons (pds_if (pdt_val (pd_callB (call_isEA hz hf) l_isE rfl T.b_isinstance (by decide +kernel) (pda_cons (pd_v 4) (pda_cons (pd_tup (pda_cons (pd_cls rfl T.mg_Asked) (pda_cons (pd_cls rfl T.mg_BadName) (pda_cons (pd_cls rfl T.mg_BadNumber) (pda_cons (pd_cls rfl T.mg_BadText) (pda_cons (pd_cls rfl T.mg_BadWish) (pda_cons (pd_cls rfl T.mg_Inside) (pda_cons (pd_cls rfl T.mg_Known) (pda_cons (pd_cls rfl T.mg_Outside) pda_nil))))))))) pda_nil)))) (pdss_one (pds_ret pd_bl)) pdss_nil)
      (pdss_cons (pds_if (pdt_w (pdw_or (pdt_val (pd_callB (call_isEA hz hf) l_isE rfl T.b_isinstance (by decide +kernel) (pda_cons (pd_v 4) (pda_cons (pd_tup (pda_cons (pd_cls rfl T.mg_Reads) (pda_cons (pd_cls rfl T.mg_Stranger) (pda_cons (pd_cls rfl T.mg_Writes) pda_nil)))) pda_nil)))) (pdw_or1 (pdt_not (pdt_val (pd_callB (call_isEA hz hf) l_isE rfl T.b_isinstance (by decide +kernel) (pda_cons (pd_v 4) (pda_cons (pd_cls rfl T.mg_BadJournal) pda_nil)))))))) (pdss_one (pds_ret pd_bl)) pdss_nil)
      (pdss_one (pds_ret (pd_and (pd_eqX hw (pd_v 3) (pd_v 2)) (pd_one (pd_callB (call_isEA hz hf) l_isE rfl T.b_isinstance (by decide +kernel) (pda_cons (pd_v 4) (pda_cons (pd_bltn rfl T.b_ValueError (by decide +kernel)) pda_nil)))))))))))
      (pdss_one (pds_ret pd_bl))))
abbrev s_law : Stmt := topS 63
abbrev n_law : List Str := ["_law_script", "_law_seats_here", "_law_patience_here", "_law_rows", "_law_none", "_law_due", "_law_handed", "_law_found"]
theorem sc_law : FnScope n_law ["_law_script"] (defScope s_law) := ⟨rfl, rfl, rfl, by decide +kernel, rfl, by decide +kernel, by decide +kernel⟩
theorem ok_law {f : Addr} {fd : FuncData} (F : Fun K "law" "law" s_law f fd) (T : Txt K mg A) (h_l_seats : Has P w K mg base "_law_seats" ["_law_script"] 2 m_l_seats) (h_l_patience : Has P w K mg base "_law_patience" ["_law_script"] 2 m_l_patience) (h_l_journal : Has P w K mg base "_law_journal" ["_law_script", "_law_seats_here", "_law_patience_here"] 3 m_l_journal) (h_l_spoilt : Has P w K mg base "_law_spoilt" ["_law_rows", "_law_cell", "_law_more"] 2 m_l_spoilt) (h_l_cell_at : Has P w K mg base "_law_cell_at" ["_law_script", "_law_k"] 1 m_l_cell_at) (h_l_refuses : Has P w K mg base "_law_refuses" ["_law_seats_here", "_law_patience_here", "_law_rows"] 9 (m_l_refuses A)) (h_l_gone : Has P w K mg base "_law_gone" ["_law_rows", "_law_seats_here", "_law_patience_here"] 3 m_l_gone) (h_judged : Has P w K mg base "judged" ["seats", "patience", "rows"] 8 (m_judged A)) (h_l_told : Has P w K mg base "_law_told" ["_law_found", "_law_due"] 2 m_l_told) (h_l_refused_rows : Has P w K mg base "_law_refused_rows" ["_law_seats_here", "_law_patience_here", "_law_rows"] 9 (m_l_refused_rows A)) : FnD P w K mg base 10 f fd ["_law_script"] m_law := by
  refine DL.okD (N := n_law) F sc_law len_law (by decide) (fun cdv Ar outer s H E hr => ?_) (read_law A)
  have hu := hu_of hr
  have hw := hr.units
  have nd := sc_law.nd
  have tk : Takes (cxOf (L2.CX P w) P w K mg base n_law "law" (defScope s_law) f cdv Ar outer s H E) (WE0 E) := takes_of rfl rfl rfl rfl
  have hp : PassesOwn (model P w) (Ar.deeper (envOfC "law" (defScope s_law) s.heap.objs.size f cdv)) (envOfC "law" (defScope s_law) s.heap.objs.size f cdv) (cxOf (L2.CX P w) P w K mg base n_law "law" (defScope s_law) f cdv Ar outer s H E).xe := passes_of (X := cxOf (L2.CX P w) P w K mg base n_law "law" (defScope s_law) f cdv Ar outer s H E) rfl
  exact (pdss_cons (pds_set (i := 1) nd rfl (Or.inl rfl) (pd_callH tk h_l_seats (hr.mono (by decide)) rfl (pda_cons (pd_v 0) pda_nil)))
      (pdss_cons (pds_set (i := 2) nd rfl (Or.inl rfl) (pd_callH tk h_l_patience (hr.mono (by decide)) rfl (pda_cons (pd_v 0) pda_nil)))
      (pdss_cons (pds_set (i := 3) nd rfl (Or.inl rfl) (pd_callH tk h_l_journal (hr.mono (by decide)) rfl (pda_cons (pd_v 0) (pda_cons (pd_v 1) (pda_cons (pd_v 2) pda_nil)))))
      (pdss_cons (pds_set (i := 3) nd rfl (Or.inl rfl) (pd_callH tk h_l_spoilt (hr.mono (by decide)) rfl (pda_cons (pd_v 3) (pda_cons (pd_div (pd_callH tk h_l_cell_at (hr.mono (by decide)) rfl (pda_cons (pd_v 0) (pda_cons pd_int pda_nil))) pd_int) (pda_cons (pd_div (pd_callH tk h_l_cell_at (hr.mono (by decide)) rfl (pda_cons (pd_v 0) (pda_cons pd_int pda_nil))) pd_int) pda_nil)))))
      (pdss_cons (pds_if (pdt_eqX hw (pd_mod (pd_div (pd_callH tk h_l_cell_at (hr.mono (by decide)) rfl (pda_cons (pd_v 0) (pda_cons pd_int pda_nil))) pd_int) pd_int) pd_int) (pdss_cons (pds_set (i := 4) nd rfl (Or.inl rfl) (pd_ix hu (pd_lst (pda_cons pd_int (pda_cons pd_bl (pda_cons (pd_add (pd_pow pd_int pd_int) pd_int) (pda_cons pd_non pda_nil))))) (pd_mod (pd_div (pd_callH tk h_l_cell_at (hr.mono (by decide)) rfl (pda_cons (pd_v 0) (pda_cons pd_int pda_nil))) pd_int) pd_int)))
      (pdss_one (pds_ret (pd_and (pd_callH tk h_l_refuses (hr.mono (by decide)) rfl (pda_cons (pd_v 4) (pda_cons (pd_v 2) (pda_cons (pd_v 3) pda_nil)))) (pd_one (pd_callH tk h_l_refuses (hr.mono (by decide)) rfl (pda_cons (pd_v 1) (pda_cons (pd_ix hu (pd_lst (pda_cons (pd_neg pd_int) (pda_cons pd_bl (pda_cons (pd_str (by decide +kernel)) pda_nil)))) (pd_mod (pd_v 1) pd_int)) (pda_cons (pd_v 3) pda_nil))))))))) pdss_nil)
      (pdss_cons (pds_set (i := 5) nd rfl (Or.inl rfl) (pd_callH tk h_l_gone (hr.mono (by decide)) rfl (pda_cons (pd_v 3) (pda_cons (pd_v 1) (pda_cons (pd_v 2) pda_nil)))))
      (pdss_cons (pds_set (i := 6) nd rfl (Or.inl rfl) (pd_callTy call_list_of l_listM rfl T.b_list (by decide +kernel) (pda_cons (pd_v 3) pda_nil)))
      (pdss_cons (pds_set (i := 7) nd rfl (Or.inl rfl) (pd_callH tk h_judged (hr.mono (by decide)) rfl (pda_cons (pd_v 1) (pda_cons (pd_v 2) (pda_cons (pd_v 6) pda_nil)))))
      (pdss_cons (pds_if (pdt_w (pdw_or (pdt_neX hw (pd_v 6) (pd_v 3)) (pdw_or1 (pdt_not (pdt_val (pd_callH tk h_l_told (hr.mono (by decide)) rfl (pda_cons (pd_v 7) (pda_cons (pd_v 5) pda_nil)))))))) (pdss_one (pds_ret pd_bl)) pdss_nil)
      (pdss_cons (pds_expr (pd_bmL PySem.F.plainAttrs_list PySem.F.slot_list_append PySem.F.type_list_append mt_append l_append (pd_v 6) (pda_cons (pd_tup (pda_cons (pd_str (by decide +kernel)) (pda_cons (pd_str (by decide +kernel)) pda_nil))) pda_nil)))
      (pdss_cons (pds_if (pdt_not (pdt_val (pd_callH tk h_l_told (hr.mono (by decide)) rfl (pda_cons (pd_callH tk h_judged (hr.mono (by decide)) rfl (pda_cons (pd_v 1) (pda_cons (pd_v 2) (pda_cons (pd_v 6) pda_nil)))) (pda_cons (pd_callH tk h_l_gone (hr.mono (by decide)) rfl (pda_cons (pd_add (pd_v 3) (pd_lst (pda_cons (pd_tup (pda_cons (pd_str (by decide +kernel)) (pda_cons (pd_str (by decide +kernel)) pda_nil))) pda_nil))) (pda_cons (pd_v 1) (pda_cons (pd_v 2) pda_nil)))) pda_nil))))) (pdss_one (pds_ret pd_bl)) pdss_nil)
      (pdss_cons (pds_expr (pd_bm0L PySem.F.plainAttrs_list PySem.F.slot_list_pop PySem.F.type_list_pop mt_pop l_pop (pd_v 6)))
      (pdss_cons (pds_if (pdt_not (pdt_val (pd_callH tk h_l_told (hr.mono (by decide)) rfl (pda_cons (pd_callH tk h_judged (hr.mono (by decide)) rfl (pda_cons (pd_v 1) (pda_cons (pd_v 2) (pda_cons (pd_v 6) pda_nil)))) (pda_cons (pd_v 5) pda_nil))))) (pdss_one (pds_ret pd_bl)) pdss_nil)
      (pdss_one (pds_ret (pd_or (pd_isN (pd_v 5)) (pd_one (pd_callH tk h_l_refused_rows (hr.mono (by decide)) rfl (pda_cons (pd_v 1) (pda_cons (pd_v 2) (pda_cons (pd_v 3) pda_nil)))))))))))))))))))))
end
theorem all_mk {P : Program} {w : World} {K : PySem.W.Frag} {h : Heap} {mg : Str → Option Value} {fa : Addr} {CRoomError : Addr} {CBadName : Addr} {CBadWish : Addr} {CBadNumber : Addr} {CKnown : Addr} {CStranger : Addr} {COutside : Addr} {CInside : Addr} {CReads : Addr} {CWrites : Addr} {CAsked : Addr} {CBadText : Addr} {CBadJournal : Addr} {tk_LONGEST : Tok} {tk_MOST : Tok} {tk_SIGNS : Tok} {CRoom : Addr} {f_l_cell_at : Addr} {oc_l_cell_at kV_l_cell_at dc_l_cell_at pm_l_cell_at cd_l_cell_at ct_l_cell_at : Value} {od_l_cell_at an_l_cell_at : Option Addr} {sl_l_cell_at : Array (Option Value)} {f_l_number_by : Addr} {oc_l_number_by kV_l_number_by dc_l_number_by pm_l_number_by cd_l_number_by ct_l_number_by : Value} {od_l_number_by an_l_number_by : Option Addr} {sl_l_number_by : Array (Option Value)} {f_l_seats : Addr} {oc_l_seats kV_l_seats dc_l_seats pm_l_seats cd_l_seats ct_l_seats : Value} {od_l_seats an_l_seats : Option Addr} {sl_l_seats : Array (Option Value)} {f_l_patience : Addr} {oc_l_patience kV_l_patience dc_l_patience pm_l_patience cd_l_patience ct_l_patience : Value} {od_l_patience an_l_patience : Option Addr} {sl_l_patience : Array (Option Value)} {f_l_people : Addr} {oc_l_people kV_l_people dc_l_people pm_l_people cd_l_people ct_l_people : Value} {od_l_people an_l_people : Option Addr} {sl_l_people : Array (Option Value)} {f_l_names : Addr} {oc_l_names kV_l_names dc_l_names pm_l_names cd_l_names ct_l_names : Value} {od_l_names an_l_names : Option Addr} {sl_l_names : Array (Option Value)} {f_l_wish_by : Addr} {oc_l_wish_by kV_l_wish_by dc_l_wish_by pm_l_wish_by cd_l_wish_by ct_l_wish_by : Value} {od_l_wish_by an_l_wish_by : Option Addr} {sl_l_wish_by : Array (Option Value)} {f_l_crowd : Addr} {oc_l_crowd kV_l_crowd dc_l_crowd pm_l_crowd cd_l_crowd ct_l_crowd : Value} {od_l_crowd an_l_crowd : Option Addr} {sl_l_crowd : Array (Option Value)} {f_l_fresh : Addr} {oc_l_fresh kV_l_fresh dc_l_fresh pm_l_fresh cd_l_fresh ct_l_fresh : Value} {od_l_fresh an_l_fresh : Option Addr} {sl_l_fresh : Array (Option Value)} {f_l_deed_by : Addr} {oc_l_deed_by kV_l_deed_by dc_l_deed_by pm_l_deed_by cd_l_deed_by ct_l_deed_by : Value} {od_l_deed_by an_l_deed_by : Option Addr} {sl_l_deed_by : Array (Option Value)} {f_l_inside : Addr} {oc_l_inside kV_l_inside dc_l_inside pm_l_inside cd_l_inside ct_l_inside : Value} {od_l_inside an_l_inside : Option Addr} {sl_l_inside : Array (Option Value)} {f_l_known : Addr} {oc_l_known kV_l_known dc_l_known pm_l_known cd_l_known ct_l_known : Value} {od_l_known an_l_known : Option Addr} {sl_l_known : Array (Option Value)} {f_l_refused : Addr} {oc_l_refused kV_l_refused dc_l_refused pm_l_refused cd_l_refused ct_l_refused : Value} {od_l_refused an_l_refused : Option Addr} {sl_l_refused : Array (Option Value)} {f_l_deed_done : Addr} {oc_l_deed_done kV_l_deed_done dc_l_deed_done pm_l_deed_done cd_l_deed_done ct_l_deed_done : Value} {od_l_deed_done an_l_deed_done : Option Addr} {sl_l_deed_done : Array (Option Value)} {f_l_row : Addr} {oc_l_row kV_l_row dc_l_row pm_l_row cd_l_row ct_l_row : Value} {od_l_row an_l_row : Option Addr} {sl_l_row : Array (Option Value)} {f_l_next : Addr} {oc_l_next kV_l_next dc_l_next pm_l_next cd_l_next ct_l_next : Value} {od_l_next an_l_next : Option Addr} {sl_l_next : Array (Option Value)} {f_l_pair : Addr} {oc_l_pair kV_l_pair dc_l_pair pm_l_pair cd_l_pair ct_l_pair : Value} {od_l_pair an_l_pair : Option Addr} {sl_l_pair : Array (Option Value)} {f_l_began : Addr} {oc_l_began kV_l_began dc_l_began pm_l_began cd_l_began ct_l_began : Value} {od_l_began an_l_began : Option Addr} {sl_l_began : Array (Option Value)} {f_l_journal : Addr} {oc_l_journal kV_l_journal dc_l_journal pm_l_journal cd_l_journal ct_l_journal : Value} {od_l_journal an_l_journal : Option Addr} {sl_l_journal : Array (Option Value)} {f_l_misspelt : Addr} {oc_l_misspelt kV_l_misspelt dc_l_misspelt pm_l_misspelt cd_l_misspelt ct_l_misspelt : Value} {od_l_misspelt an_l_misspelt : Option Addr} {sl_l_misspelt : Array (Option Value)} {f_l_other_row : Addr} {oc_l_other_row kV_l_other_row dc_l_other_row pm_l_other_row cd_l_other_row ct_l_other_row : Value} {od_l_other_row an_l_other_row : Option Addr} {sl_l_other_row : Array (Option Value)} {f_l_spoilt : Addr} {oc_l_spoilt kV_l_spoilt dc_l_spoilt pm_l_spoilt cd_l_spoilt ct_l_spoilt : Value} {od_l_spoilt an_l_spoilt : Option Addr} {sl_l_spoilt : Array (Option Value)} {f_is_row : Addr} {oc_is_row kV_is_row dc_is_row pm_is_row cd_is_row ct_is_row : Value} {od_is_row an_is_row : Option Addr} {sl_is_row : Array (Option Value)} {f_is_name : Addr} {oc_is_name kV_is_name dc_is_name pm_is_name cd_is_name ct_is_name : Value} {od_is_name an_is_name : Option Addr} {sl_is_name : Array (Option Value)} {f_is_wish : Addr} {oc_is_wish kV_is_wish dc_is_wish pm_is_wish cd_is_wish ct_is_wish : Value} {od_is_wish an_is_wish : Option Addr} {sl_is_wish : Array (Option Value)} {f_room_is_waiting : Addr} {oc_room_is_waiting kV_room_is_waiting dc_room_is_waiting pm_room_is_waiting cd_room_is_waiting ct_room_is_waiting : Value} {od_room_is_waiting an_room_is_waiting : Option Addr} {sl_room_is_waiting : Array (Option Value)} {f_room_is_inside : Addr} {oc_room_is_inside kV_room_is_inside dc_room_is_inside pm_room_is_inside cd_room_is_inside ct_room_is_inside : Value} {od_room_is_inside an_room_is_inside : Option Addr} {sl_room_is_inside : Array (Option Value)} {f_can_begin : Addr} {oc_can_begin kV_can_begin dc_can_begin pm_can_begin cd_can_begin ct_can_begin : Value} {od_can_begin an_can_begin : Option Addr} {sl_can_begin : Array (Option Value)} {f_first_reader : Addr} {oc_first_reader kV_first_reader dc_first_reader pm_first_reader cd_first_reader ct_first_reader : Value} {od_first_reader an_first_reader : Option Addr} {sl_first_reader : Array (Option Value)} {f_next_place : Addr} {oc_next_place kV_next_place dc_next_place pm_next_place cd_next_place ct_next_place : Value} {od_next_place an_next_place : Option Addr} {sl_next_place : Array (Option Value)} {f_room_begun : Addr} {oc_room_begun kV_room_begun dc_room_begun pm_room_begun cd_room_begun ct_room_begun : Value} {od_room_begun an_room_begun : Option Addr} {sl_room_begun : Array (Option Value)} {f_room_settled : Addr} {oc_room_settled kV_room_settled dc_room_settled pm_room_settled cd_room_settled ct_room_settled : Value} {od_room_settled an_room_settled : Option Addr} {sl_room_settled : Array (Option Value)} {f_room_come : Addr} {oc_room_come kV_room_come dc_room_come pm_room_come cd_room_come ct_room_come : Value} {od_room_come an_room_come : Option Addr} {sl_room_come : Array (Option Value)} {f_room_look : Addr} {oc_room_look kV_room_look dc_room_look pm_room_look cd_room_look ct_room_look : Value} {od_room_look an_room_look : Option Addr} {sl_room_look : Array (Option Value)} {f_room_leave : Addr} {oc_room_leave kV_room_leave dc_room_leave pm_room_leave cd_room_leave ct_room_leave : Value} {od_room_leave an_room_leave : Option Addr} {sl_room_leave : Array (Option Value)} {f_room_ask : Addr} {oc_room_ask kV_room_ask dc_room_ask pm_room_ask cd_room_ask ct_room_ask : Value} {od_room_ask an_room_ask : Option Addr} {sl_room_ask : Array (Option Value)} {f_room_ease : Addr} {oc_room_ease kV_room_ease dc_room_ease pm_room_ease cd_room_ease ct_room_ease : Value} {od_room_ease an_room_ease : Option Addr} {sl_room_ease : Array (Option Value)} {f_redone : Addr} {oc_redone kV_redone dc_redone pm_redone cd_redone ct_redone : Value} {od_redone an_redone : Option Addr} {sl_redone : Array (Option Value)} {f_gone_through : Addr} {oc_gone_through kV_gone_through dc_gone_through pm_gone_through cd_gone_through ct_gone_through : Value} {od_gone_through an_gone_through : Option Addr} {sl_gone_through : Array (Option Value)} {f_is_number : Addr} {oc_is_number kV_is_number dc_is_number pm_is_number cd_is_number ct_is_number : Value} {od_is_number an_is_number : Option Addr} {sl_is_number : Array (Option Value)} {f_room_init : Addr} {oc_room_init kV_room_init dc_room_init pm_room_init cd_room_init ct_room_init : Value} {od_room_init an_room_init : Option Addr} {sl_room_init : Array (Option Value)} {f_judged : Addr} {oc_judged kV_judged dc_judged pm_judged cd_judged ct_judged : Value} {od_judged an_judged : Option Addr} {sl_judged : Array (Option Value)} {f_room_of : Addr} {oc_room_of kV_room_of dc_room_of pm_room_of cd_room_of ct_room_of : Value} {od_room_of an_room_of : Option Addr} {sl_room_of : Array (Option Value)} {f_l_refuses : Addr} {oc_l_refuses kV_l_refuses dc_l_refuses pm_l_refuses cd_l_refuses ct_l_refuses : Value} {od_l_refuses an_l_refuses : Option Addr} {sl_l_refuses : Array (Option Value)} {f_l_name : Addr} {oc_l_name kV_l_name dc_l_name pm_l_name cd_l_name ct_l_name : Value} {od_l_name an_l_name : Option Addr} {sl_l_name : Array (Option Value)} {f_l_formed : Addr} {oc_l_formed kV_l_formed dc_l_formed pm_l_formed cd_l_formed ct_l_formed : Value} {od_l_formed an_l_formed : Option Addr} {sl_l_formed : Array (Option Value)} {f_l_gone : Addr} {oc_l_gone kV_l_gone dc_l_gone pm_l_gone cd_l_gone ct_l_gone : Value} {od_l_gone an_l_gone : Option Addr} {sl_l_gone : Array (Option Value)} {f_l_whole : Addr} {oc_l_whole kV_l_whole dc_l_whole pm_l_whole cd_l_whole ct_l_whole : Value} {od_l_whole an_l_whole : Option Addr} {sl_l_whole : Array (Option Value)} {f_l_told : Addr} {oc_l_told kV_l_told dc_l_told pm_l_told cd_l_told ct_l_told : Value} {od_l_told an_l_told : Option Addr} {sl_l_told : Array (Option Value)} {f_l_refused_rows : Addr} {oc_l_refused_rows kV_l_refused_rows dc_l_refused_rows pm_l_refused_rows cd_l_refused_rows ct_l_refused_rows : Value} {od_l_refused_rows an_l_refused_rows : Option Addr} {sl_l_refused_rows : Array (Option Value)} {f_law : Addr} {oc_law kV_law dc_law pm_law cd_law ct_law : Value} {od_law an_law : Option Addr} {sl_law : Array (Option Value)} (X : K.In h) (G : h.Ns mainGlobals mg) (hfa : mg "law" = some (.ref fa))
    (aCRoomError : PySem.W.nsIn K mainGlobals "RoomError" = some (some (.ref CRoomError)))
    (aCBadName : PySem.W.nsIn K mainGlobals "BadName" = some (some (.ref CBadName)))
    (aCBadWish : PySem.W.nsIn K mainGlobals "BadWish" = some (some (.ref CBadWish)))
    (aCBadNumber : PySem.W.nsIn K mainGlobals "BadNumber" = some (some (.ref CBadNumber)))
    (aCKnown : PySem.W.nsIn K mainGlobals "Known" = some (some (.ref CKnown)))
    (aCStranger : PySem.W.nsIn K mainGlobals "Stranger" = some (some (.ref CStranger)))
    (aCOutside : PySem.W.nsIn K mainGlobals "Outside" = some (some (.ref COutside)))
    (aCInside : PySem.W.nsIn K mainGlobals "Inside" = some (some (.ref CInside)))
    (aCReads : PySem.W.nsIn K mainGlobals "Reads" = some (some (.ref CReads)))
    (aCWrites : PySem.W.nsIn K mainGlobals "Writes" = some (some (.ref CWrites)))
    (aCAsked : PySem.W.nsIn K mainGlobals "Asked" = some (some (.ref CAsked)))
    (aCBadText : PySem.W.nsIn K mainGlobals "BadText" = some (some (.ref CBadText)))
    (aCBadJournal : PySem.W.nsIn K mainGlobals "BadJournal" = some (some (.ref CBadJournal)))
    (x_BadName : PySem.W.excIn K CBadName [.type "ValueError", .type "Exception", .type "BaseException", .type "object"] "ValueError.__new__" = true)
    (k_BadName : PySem.W.keepIn K (.ref CBadName) = true)
    (s_BadName : PySem.W.subIn K (.ref CBadName) (.type "BaseException") = some true)
    (t_BadName : PySem.W.typeIn K (.ref CBadName) = some (.type "type"))
    (x_BadWish : PySem.W.excIn K CBadWish [.type "ValueError", .type "Exception", .type "BaseException", .type "object"] "ValueError.__new__" = true)
    (k_BadWish : PySem.W.keepIn K (.ref CBadWish) = true)
    (s_BadWish : PySem.W.subIn K (.ref CBadWish) (.type "BaseException") = some true)
    (t_BadWish : PySem.W.typeIn K (.ref CBadWish) = some (.type "type"))
    (x_BadNumber : PySem.W.excIn K CBadNumber [.type "ValueError", .type "Exception", .type "BaseException", .type "object"] "ValueError.__new__" = true)
    (k_BadNumber : PySem.W.keepIn K (.ref CBadNumber) = true)
    (s_BadNumber : PySem.W.subIn K (.ref CBadNumber) (.type "BaseException") = some true)
    (t_BadNumber : PySem.W.typeIn K (.ref CBadNumber) = some (.type "type"))
    (x_Known : PySem.W.excIn K CKnown [.type "ValueError", .type "Exception", .type "BaseException", .type "object"] "ValueError.__new__" = true)
    (k_Known : PySem.W.keepIn K (.ref CKnown) = true)
    (s_Known : PySem.W.subIn K (.ref CKnown) (.type "BaseException") = some true)
    (t_Known : PySem.W.typeIn K (.ref CKnown) = some (.type "type"))
    (x_Stranger : PySem.W.excIn K CStranger [.type "ValueError", .type "Exception", .type "BaseException", .type "object"] "ValueError.__new__" = true)
    (k_Stranger : PySem.W.keepIn K (.ref CStranger) = true)
    (s_Stranger : PySem.W.subIn K (.ref CStranger) (.type "BaseException") = some true)
    (t_Stranger : PySem.W.typeIn K (.ref CStranger) = some (.type "type"))
    (x_Outside : PySem.W.excIn K COutside [.type "ValueError", .type "Exception", .type "BaseException", .type "object"] "ValueError.__new__" = true)
    (k_Outside : PySem.W.keepIn K (.ref COutside) = true)
    (s_Outside : PySem.W.subIn K (.ref COutside) (.type "BaseException") = some true)
    (t_Outside : PySem.W.typeIn K (.ref COutside) = some (.type "type"))
    (x_Reads : PySem.W.excIn K CReads [.type "ValueError", .type "Exception", .type "BaseException", .type "object"] "ValueError.__new__" = true)
    (k_Reads : PySem.W.keepIn K (.ref CReads) = true)
    (s_Reads : PySem.W.subIn K (.ref CReads) (.type "BaseException") = some true)
    (t_Reads : PySem.W.typeIn K (.ref CReads) = some (.type "type"))
    (x_Writes : PySem.W.excIn K CWrites [.type "ValueError", .type "Exception", .type "BaseException", .type "object"] "ValueError.__new__" = true)
    (k_Writes : PySem.W.keepIn K (.ref CWrites) = true)
    (s_Writes : PySem.W.subIn K (.ref CWrites) (.type "BaseException") = some true)
    (t_Writes : PySem.W.typeIn K (.ref CWrites) = some (.type "type"))
    (x_Asked : PySem.W.excIn K CAsked [.type "ValueError", .type "Exception", .type "BaseException", .type "object"] "ValueError.__new__" = true)
    (k_Asked : PySem.W.keepIn K (.ref CAsked) = true)
    (s_Asked : PySem.W.subIn K (.ref CAsked) (.type "BaseException") = some true)
    (t_Asked : PySem.W.typeIn K (.ref CAsked) = some (.type "type"))
    (x_BadJournal : PySem.W.excIn K CBadJournal [.type "ValueError", .type "Exception", .type "BaseException", .type "object"] "ValueError.__new__" = true)
    (k_BadJournal : PySem.W.keepIn K (.ref CBadJournal) = true)
    (s_BadJournal : PySem.W.subIn K (.ref CBadJournal) (.type "BaseException") = some true)
    (t_BadJournal : PySem.W.typeIn K (.ref CBadJournal) = some (.type "type"))
    (e_BadName_RoomError : PySem.W.exmOne K (.ref CBadName) (.ref CRoomError) = some true)
    (e_BadWish_RoomError : PySem.W.exmOne K (.ref CBadWish) (.ref CRoomError) = some true)
    (e_BadNumber_RoomError : PySem.W.exmOne K (.ref CBadNumber) (.ref CRoomError) = some true)
    (e_Known_RoomError : PySem.W.exmOne K (.ref CKnown) (.ref CRoomError) = some true)
    (e_Stranger_RoomError : PySem.W.exmOne K (.ref CStranger) (.ref CRoomError) = some true)
    (e_Outside_RoomError : PySem.W.exmOne K (.ref COutside) (.ref CRoomError) = some true)
    (e_Reads_RoomError : PySem.W.exmOne K (.ref CReads) (.ref CRoomError) = some true)
    (e_Writes_RoomError : PySem.W.exmOne K (.ref CWrites) (.ref CRoomError) = some true)
    (e_Asked_RoomError : PySem.W.exmOne K (.ref CAsked) (.ref CRoomError) = some true)
    (e_BadJournal_RoomError : PySem.W.exmOne K (.ref CBadJournal) (.ref CRoomError) = some true)
    (e_BadNumber_BadNumber : PySem.W.exmOne K (.ref CBadNumber) (.ref CBadNumber) = some true)
    (ecg_BadJournal : PySem.W.findIn K (.ref CBadJournal) "__getattribute__" = some (some (.builtin "BaseException.__getattribute__")))
    (eck_BadJournal : PySem.W.findIn K (.ref CBadJournal) "__getattr__" = some none)
    (ecs_BadJournal : PySem.W.subIn K (.ref CBadJournal) (.type "BaseException") = some true)
    (ecd_BadJournal : PySem.W.hasDictIn K CBadJournal = true)
    (eca_BadJournal : PySem.W.findIn K (.ref CBadJournal) "__class__" = some (some (.builtin "object.__class__")))
    (ecn_BadJournal : PySem.W.specialIn K (.builtin "object.__class__") "__get__" = some (some (.builtin "getset_descriptor.__get__")))
    (ect_BadJournal : PySem.W.takesIn K (.builtin "object.__class__") = some true)
    (ecm_BadJournal : PySem.W.mroIn K CBadJournal (.type "object") = some true)
    (i_BadJournal_BadName : PySem.W.kitOne K (.ref CBadJournal) (.ref CBadName) = some false)
    (i_BadJournal_BadWish : PySem.W.kitOne K (.ref CBadJournal) (.ref CBadWish) = some false)
    (i_BadJournal_BadNumber : PySem.W.kitOne K (.ref CBadJournal) (.ref CBadNumber) = some false)
    (i_BadJournal_Known : PySem.W.kitOne K (.ref CBadJournal) (.ref CKnown) = some false)
    (i_BadJournal_Stranger : PySem.W.kitOne K (.ref CBadJournal) (.ref CStranger) = some false)
    (i_BadJournal_Outside : PySem.W.kitOne K (.ref CBadJournal) (.ref COutside) = some false)
    (i_BadJournal_Inside : PySem.W.kitOne K (.ref CBadJournal) (.ref CInside) = some false)
    (i_BadJournal_Reads : PySem.W.kitOne K (.ref CBadJournal) (.ref CReads) = some false)
    (i_BadJournal_Writes : PySem.W.kitOne K (.ref CBadJournal) (.ref CWrites) = some false)
    (i_BadJournal_Asked : PySem.W.kitOne K (.ref CBadJournal) (.ref CAsked) = some false)
    (i_BadJournal_BadText : PySem.W.kitOne K (.ref CBadJournal) (.ref CBadText) = some false)
    (i_BadJournal_BadJournal : PySem.W.kitOne K (.ref CBadJournal) (.ref CBadJournal) = some true)
    (i_BadJournal_ValueError : PySem.W.kitOne K (.ref CBadJournal) (.type "ValueError") = some true)
    (z_ValueError : PySem.W.nsIn K mainGlobals "ValueError" = some none)
    (z_bool : PySem.W.nsIn K mainGlobals "bool" = some none)
    (z_dict : PySem.W.nsIn K mainGlobals "dict" = some none)
    (z_enumerate : PySem.W.nsIn K mainGlobals "enumerate" = some none)
    (z_int : PySem.W.nsIn K mainGlobals "int" = some none)
    (z_isinstance : PySem.W.nsIn K mainGlobals "isinstance" = some none)
    (z_len : PySem.W.nsIn K mainGlobals "len" = some none)
    (z_list : PySem.W.nsIn K mainGlobals "list" = some none)
    (z_max : PySem.W.nsIn K mainGlobals "max" = some none)
    (z_range : PySem.W.nsIn K mainGlobals "range" = some none)
    (z_str : PySem.W.nsIn K mainGlobals "str" = some none)
    (z_tuple : PySem.W.nsIn K mainGlobals "tuple" = some none)
    (v_LONGEST : PySem.W.nsIn K mainGlobals "LONGEST" = some (some (.int 12 tk_LONGEST)))
    (v_MOST : PySem.W.nsIn K mainGlobals "MOST" = some (some (.int 1000000000 tk_MOST)))
    (v_SIGNS : PySem.W.nsIn K mainGlobals "SIGNS" = some (some (.str "abcdefghijklmnopqrstuvwxyz0123456789" tk_SIGNS)))
    (aCRoom : PySem.W.nsIn K mainGlobals "Room" = some (some (.ref CRoom)))
    (pg : PySem.W.plainGet K CRoom Str.empty = true)
    (hd : PySem.W.hasDictIn K CRoom = true)
    (po : PySem.W.plainOver K CRoom = true)
    (sa : PySem.W.findIn K (.ref CRoom) "__setattr__" = some (some (.builtin "object.__setattr__")))
    (mk : PySem.W.makesIn K CRoom = true)
    (kc : PySem.W.keepIn K (.ref CRoom) = true)
    (no_alone : PySem.W.findIn K (.ref CRoom) "alone" = some none)
    (no_asking : PySem.W.findIn K (.ref CRoom) "asking" = some none)
    (no_patience : PySem.W.findIn K (.ref CRoom) "patience" = some none)
    (no_reading : PySem.W.findIn K (.ref CRoom) "reading" = some none)
    (no_rows : PySem.W.findIn K (.ref CRoom) "rows" = some none)
    (no_seats : PySem.W.findIn K (.ref CRoom) "seats" = some none)
    (no_waiting : PySem.W.findIn K (.ref CRoom) "waiting" = some none)
    (a_l_cell_at : PySem.W.nsIn K mainGlobals "_law_cell_at" = some (some (.ref f_l_cell_at)))
    (l_l_cell_at : K.lookup f_l_cell_at = some ⟨oc_l_cell_at, od_l_cell_at, .func (PySem.W.fnOf "_law_cell_at" "_law_cell_at" (defArgs s_l_cell_at) (defBody s_l_cell_at) (defScope s_l_cell_at) .none kV_l_cell_at dc_l_cell_at pm_l_cell_at an_l_cell_at cd_l_cell_at ct_l_cell_at), sl_l_cell_at⟩)
    (c_l_cell_at : PySem.W.codeIn K cd_l_cell_at "_law_cell_at" = true)
    (kf_l_cell_at : PySem.W.keepIn K (.ref f_l_cell_at) = true)
    (a_l_number_by : PySem.W.nsIn K mainGlobals "_law_number_by" = some (some (.ref f_l_number_by)))
    (l_l_number_by : K.lookup f_l_number_by = some ⟨oc_l_number_by, od_l_number_by, .func (PySem.W.fnOf "_law_number_by" "_law_number_by" (defArgs s_l_number_by) (defBody s_l_number_by) (defScope s_l_number_by) .none kV_l_number_by dc_l_number_by pm_l_number_by an_l_number_by cd_l_number_by ct_l_number_by), sl_l_number_by⟩)
    (c_l_number_by : PySem.W.codeIn K cd_l_number_by "_law_number_by" = true)
    (kf_l_number_by : PySem.W.keepIn K (.ref f_l_number_by) = true)
    (a_l_seats : PySem.W.nsIn K mainGlobals "_law_seats" = some (some (.ref f_l_seats)))
    (l_l_seats : K.lookup f_l_seats = some ⟨oc_l_seats, od_l_seats, .func (PySem.W.fnOf "_law_seats" "_law_seats" (defArgs s_l_seats) (defBody s_l_seats) (defScope s_l_seats) .none kV_l_seats dc_l_seats pm_l_seats an_l_seats cd_l_seats ct_l_seats), sl_l_seats⟩)
    (c_l_seats : PySem.W.codeIn K cd_l_seats "_law_seats" = true)
    (kf_l_seats : PySem.W.keepIn K (.ref f_l_seats) = true)
    (a_l_patience : PySem.W.nsIn K mainGlobals "_law_patience" = some (some (.ref f_l_patience)))
    (l_l_patience : K.lookup f_l_patience = some ⟨oc_l_patience, od_l_patience, .func (PySem.W.fnOf "_law_patience" "_law_patience" (defArgs s_l_patience) (defBody s_l_patience) (defScope s_l_patience) .none kV_l_patience dc_l_patience pm_l_patience an_l_patience cd_l_patience ct_l_patience), sl_l_patience⟩)
    (c_l_patience : PySem.W.codeIn K cd_l_patience "_law_patience" = true)
    (kf_l_patience : PySem.W.keepIn K (.ref f_l_patience) = true)
    (a_l_people : PySem.W.nsIn K mainGlobals "_law_people" = some (some (.ref f_l_people)))
    (l_l_people : K.lookup f_l_people = some ⟨oc_l_people, od_l_people, .func (PySem.W.fnOf "_law_people" "_law_people" (defArgs s_l_people) (defBody s_l_people) (defScope s_l_people) .none kV_l_people dc_l_people pm_l_people an_l_people cd_l_people ct_l_people), sl_l_people⟩)
    (c_l_people : PySem.W.codeIn K cd_l_people "_law_people" = true)
    (kf_l_people : PySem.W.keepIn K (.ref f_l_people) = true)
    (a_l_names : PySem.W.nsIn K mainGlobals "_law_names" = some (some (.ref f_l_names)))
    (l_l_names : K.lookup f_l_names = some ⟨oc_l_names, od_l_names, .func (PySem.W.fnOf "_law_names" "_law_names" (defArgs s_l_names) (defBody s_l_names) (defScope s_l_names) .none kV_l_names dc_l_names pm_l_names an_l_names cd_l_names ct_l_names), sl_l_names⟩)
    (c_l_names : PySem.W.codeIn K cd_l_names "_law_names" = true)
    (kf_l_names : PySem.W.keepIn K (.ref f_l_names) = true)
    (a_l_wish_by : PySem.W.nsIn K mainGlobals "_law_wish_by" = some (some (.ref f_l_wish_by)))
    (l_l_wish_by : K.lookup f_l_wish_by = some ⟨oc_l_wish_by, od_l_wish_by, .func (PySem.W.fnOf "_law_wish_by" "_law_wish_by" (defArgs s_l_wish_by) (defBody s_l_wish_by) (defScope s_l_wish_by) .none kV_l_wish_by dc_l_wish_by pm_l_wish_by an_l_wish_by cd_l_wish_by ct_l_wish_by), sl_l_wish_by⟩)
    (c_l_wish_by : PySem.W.codeIn K cd_l_wish_by "_law_wish_by" = true)
    (kf_l_wish_by : PySem.W.keepIn K (.ref f_l_wish_by) = true)
    (a_l_crowd : PySem.W.nsIn K mainGlobals "_law_crowd" = some (some (.ref f_l_crowd)))
    (l_l_crowd : K.lookup f_l_crowd = some ⟨oc_l_crowd, od_l_crowd, .func (PySem.W.fnOf "_law_crowd" "_law_crowd" (defArgs s_l_crowd) (defBody s_l_crowd) (defScope s_l_crowd) .none kV_l_crowd dc_l_crowd pm_l_crowd an_l_crowd cd_l_crowd ct_l_crowd), sl_l_crowd⟩)
    (c_l_crowd : PySem.W.codeIn K cd_l_crowd "_law_crowd" = true)
    (kf_l_crowd : PySem.W.keepIn K (.ref f_l_crowd) = true)
    (a_l_fresh : PySem.W.nsIn K mainGlobals "_law_fresh" = some (some (.ref f_l_fresh)))
    (l_l_fresh : K.lookup f_l_fresh = some ⟨oc_l_fresh, od_l_fresh, .func (PySem.W.fnOf "_law_fresh" "_law_fresh" (defArgs s_l_fresh) (defBody s_l_fresh) (defScope s_l_fresh) .none kV_l_fresh dc_l_fresh pm_l_fresh an_l_fresh cd_l_fresh ct_l_fresh), sl_l_fresh⟩)
    (c_l_fresh : PySem.W.codeIn K cd_l_fresh "_law_fresh" = true)
    (kf_l_fresh : PySem.W.keepIn K (.ref f_l_fresh) = true)
    (a_l_deed_by : PySem.W.nsIn K mainGlobals "_law_deed_by" = some (some (.ref f_l_deed_by)))
    (l_l_deed_by : K.lookup f_l_deed_by = some ⟨oc_l_deed_by, od_l_deed_by, .func (PySem.W.fnOf "_law_deed_by" "_law_deed_by" (defArgs s_l_deed_by) (defBody s_l_deed_by) (defScope s_l_deed_by) .none kV_l_deed_by dc_l_deed_by pm_l_deed_by an_l_deed_by cd_l_deed_by ct_l_deed_by), sl_l_deed_by⟩)
    (c_l_deed_by : PySem.W.codeIn K cd_l_deed_by "_law_deed_by" = true)
    (kf_l_deed_by : PySem.W.keepIn K (.ref f_l_deed_by) = true)
    (a_l_inside : PySem.W.nsIn K mainGlobals "_law_inside" = some (some (.ref f_l_inside)))
    (l_l_inside : K.lookup f_l_inside = some ⟨oc_l_inside, od_l_inside, .func (PySem.W.fnOf "_law_inside" "_law_inside" (defArgs s_l_inside) (defBody s_l_inside) (defScope s_l_inside) .none kV_l_inside dc_l_inside pm_l_inside an_l_inside cd_l_inside ct_l_inside), sl_l_inside⟩)
    (c_l_inside : PySem.W.codeIn K cd_l_inside "_law_inside" = true)
    (kf_l_inside : PySem.W.keepIn K (.ref f_l_inside) = true)
    (a_l_known : PySem.W.nsIn K mainGlobals "_law_known" = some (some (.ref f_l_known)))
    (l_l_known : K.lookup f_l_known = some ⟨oc_l_known, od_l_known, .func (PySem.W.fnOf "_law_known" "_law_known" (defArgs s_l_known) (defBody s_l_known) (defScope s_l_known) .none kV_l_known dc_l_known pm_l_known an_l_known cd_l_known ct_l_known), sl_l_known⟩)
    (c_l_known : PySem.W.codeIn K cd_l_known "_law_known" = true)
    (kf_l_known : PySem.W.keepIn K (.ref f_l_known) = true)
    (a_l_refused : PySem.W.nsIn K mainGlobals "_law_refused" = some (some (.ref f_l_refused)))
    (l_l_refused : K.lookup f_l_refused = some ⟨oc_l_refused, od_l_refused, .func (PySem.W.fnOf "_law_refused" "_law_refused" (defArgs s_l_refused) (defBody s_l_refused) (defScope s_l_refused) .none kV_l_refused dc_l_refused pm_l_refused an_l_refused cd_l_refused ct_l_refused), sl_l_refused⟩)
    (c_l_refused : PySem.W.codeIn K cd_l_refused "_law_refused" = true)
    (kf_l_refused : PySem.W.keepIn K (.ref f_l_refused) = true)
    (a_l_deed_done : PySem.W.nsIn K mainGlobals "_law_deed_done" = some (some (.ref f_l_deed_done)))
    (l_l_deed_done : K.lookup f_l_deed_done = some ⟨oc_l_deed_done, od_l_deed_done, .func (PySem.W.fnOf "_law_deed_done" "_law_deed_done" (defArgs s_l_deed_done) (defBody s_l_deed_done) (defScope s_l_deed_done) .none kV_l_deed_done dc_l_deed_done pm_l_deed_done an_l_deed_done cd_l_deed_done ct_l_deed_done), sl_l_deed_done⟩)
    (c_l_deed_done : PySem.W.codeIn K cd_l_deed_done "_law_deed_done" = true)
    (kf_l_deed_done : PySem.W.keepIn K (.ref f_l_deed_done) = true)
    (a_l_row : PySem.W.nsIn K mainGlobals "_law_row" = some (some (.ref f_l_row)))
    (l_l_row : K.lookup f_l_row = some ⟨oc_l_row, od_l_row, .func (PySem.W.fnOf "_law_row" "_law_row" (defArgs s_l_row) (defBody s_l_row) (defScope s_l_row) .none kV_l_row dc_l_row pm_l_row an_l_row cd_l_row ct_l_row), sl_l_row⟩)
    (c_l_row : PySem.W.codeIn K cd_l_row "_law_row" = true)
    (kf_l_row : PySem.W.keepIn K (.ref f_l_row) = true)
    (a_l_next : PySem.W.nsIn K mainGlobals "_law_next" = some (some (.ref f_l_next)))
    (l_l_next : K.lookup f_l_next = some ⟨oc_l_next, od_l_next, .func (PySem.W.fnOf "_law_next" "_law_next" (defArgs s_l_next) (defBody s_l_next) (defScope s_l_next) .none kV_l_next dc_l_next pm_l_next an_l_next cd_l_next ct_l_next), sl_l_next⟩)
    (c_l_next : PySem.W.codeIn K cd_l_next "_law_next" = true)
    (kf_l_next : PySem.W.keepIn K (.ref f_l_next) = true)
    (a_l_pair : PySem.W.nsIn K mainGlobals "_law_pair" = some (some (.ref f_l_pair)))
    (l_l_pair : K.lookup f_l_pair = some ⟨oc_l_pair, od_l_pair, .func (PySem.W.fnOf "_law_pair" "_law_pair" (defArgs s_l_pair) (defBody s_l_pair) (defScope s_l_pair) .none kV_l_pair dc_l_pair pm_l_pair an_l_pair cd_l_pair ct_l_pair), sl_l_pair⟩)
    (c_l_pair : PySem.W.codeIn K cd_l_pair "_law_pair" = true)
    (kf_l_pair : PySem.W.keepIn K (.ref f_l_pair) = true)
    (a_l_began : PySem.W.nsIn K mainGlobals "_law_began" = some (some (.ref f_l_began)))
    (l_l_began : K.lookup f_l_began = some ⟨oc_l_began, od_l_began, .func (PySem.W.fnOf "_law_began" "_law_began" (defArgs s_l_began) (defBody s_l_began) (defScope s_l_began) .none kV_l_began dc_l_began pm_l_began an_l_began cd_l_began ct_l_began), sl_l_began⟩)
    (c_l_began : PySem.W.codeIn K cd_l_began "_law_began" = true)
    (kf_l_began : PySem.W.keepIn K (.ref f_l_began) = true)
    (a_l_journal : PySem.W.nsIn K mainGlobals "_law_journal" = some (some (.ref f_l_journal)))
    (l_l_journal : K.lookup f_l_journal = some ⟨oc_l_journal, od_l_journal, .func (PySem.W.fnOf "_law_journal" "_law_journal" (defArgs s_l_journal) (defBody s_l_journal) (defScope s_l_journal) .none kV_l_journal dc_l_journal pm_l_journal an_l_journal cd_l_journal ct_l_journal), sl_l_journal⟩)
    (c_l_journal : PySem.W.codeIn K cd_l_journal "_law_journal" = true)
    (kf_l_journal : PySem.W.keepIn K (.ref f_l_journal) = true)
    (a_l_misspelt : PySem.W.nsIn K mainGlobals "_law_misspelt" = some (some (.ref f_l_misspelt)))
    (l_l_misspelt : K.lookup f_l_misspelt = some ⟨oc_l_misspelt, od_l_misspelt, .func (PySem.W.fnOf "_law_misspelt" "_law_misspelt" (defArgs s_l_misspelt) (defBody s_l_misspelt) (defScope s_l_misspelt) .none kV_l_misspelt dc_l_misspelt pm_l_misspelt an_l_misspelt cd_l_misspelt ct_l_misspelt), sl_l_misspelt⟩)
    (c_l_misspelt : PySem.W.codeIn K cd_l_misspelt "_law_misspelt" = true)
    (kf_l_misspelt : PySem.W.keepIn K (.ref f_l_misspelt) = true)
    (a_l_other_row : PySem.W.nsIn K mainGlobals "_law_other_row" = some (some (.ref f_l_other_row)))
    (l_l_other_row : K.lookup f_l_other_row = some ⟨oc_l_other_row, od_l_other_row, .func (PySem.W.fnOf "_law_other_row" "_law_other_row" (defArgs s_l_other_row) (defBody s_l_other_row) (defScope s_l_other_row) .none kV_l_other_row dc_l_other_row pm_l_other_row an_l_other_row cd_l_other_row ct_l_other_row), sl_l_other_row⟩)
    (c_l_other_row : PySem.W.codeIn K cd_l_other_row "_law_other_row" = true)
    (kf_l_other_row : PySem.W.keepIn K (.ref f_l_other_row) = true)
    (a_l_spoilt : PySem.W.nsIn K mainGlobals "_law_spoilt" = some (some (.ref f_l_spoilt)))
    (l_l_spoilt : K.lookup f_l_spoilt = some ⟨oc_l_spoilt, od_l_spoilt, .func (PySem.W.fnOf "_law_spoilt" "_law_spoilt" (defArgs s_l_spoilt) (defBody s_l_spoilt) (defScope s_l_spoilt) .none kV_l_spoilt dc_l_spoilt pm_l_spoilt an_l_spoilt cd_l_spoilt ct_l_spoilt), sl_l_spoilt⟩)
    (c_l_spoilt : PySem.W.codeIn K cd_l_spoilt "_law_spoilt" = true)
    (kf_l_spoilt : PySem.W.keepIn K (.ref f_l_spoilt) = true)
    (a_is_row : PySem.W.nsIn K mainGlobals "is_row" = some (some (.ref f_is_row)))
    (l_is_row : K.lookup f_is_row = some ⟨oc_is_row, od_is_row, .func (PySem.W.fnOf "is_row" "is_row" (defArgs s_is_row) (defBody s_is_row) (defScope s_is_row) .none kV_is_row dc_is_row pm_is_row an_is_row cd_is_row ct_is_row), sl_is_row⟩)
    (c_is_row : PySem.W.codeIn K cd_is_row "is_row" = true)
    (kf_is_row : PySem.W.keepIn K (.ref f_is_row) = true)
    (a_is_name : PySem.W.nsIn K mainGlobals "is_name" = some (some (.ref f_is_name)))
    (l_is_name : K.lookup f_is_name = some ⟨oc_is_name, od_is_name, .func (PySem.W.fnOf "is_name" "is_name" (defArgs s_is_name) (defBody s_is_name) (defScope s_is_name) .none kV_is_name dc_is_name pm_is_name an_is_name cd_is_name ct_is_name), sl_is_name⟩)
    (c_is_name : PySem.W.codeIn K cd_is_name "is_name" = true)
    (kf_is_name : PySem.W.keepIn K (.ref f_is_name) = true)
    (a_is_wish : PySem.W.nsIn K mainGlobals "is_wish" = some (some (.ref f_is_wish)))
    (l_is_wish : K.lookup f_is_wish = some ⟨oc_is_wish, od_is_wish, .func (PySem.W.fnOf "is_wish" "is_wish" (defArgs s_is_wish) (defBody s_is_wish) (defScope s_is_wish) .none kV_is_wish dc_is_wish pm_is_wish an_is_wish cd_is_wish ct_is_wish), sl_is_wish⟩)
    (c_is_wish : PySem.W.codeIn K cd_is_wish "is_wish" = true)
    (kf_is_wish : PySem.W.keepIn K (.ref f_is_wish) = true)
    (a_room_is_waiting : PySem.W.findIn K (.ref CRoom) "is_waiting" = some (some (.ref f_room_is_waiting)))
    (i_room_is_waiting : PySem.W.isFn K (.ref f_room_is_waiting) = true)
    (l_room_is_waiting : K.lookup f_room_is_waiting = some ⟨oc_room_is_waiting, od_room_is_waiting, .func (PySem.W.fnOf "is_waiting" "Room.is_waiting" (defArgs s_room_is_waiting) (defBody s_room_is_waiting) (defScope s_room_is_waiting) .none kV_room_is_waiting dc_room_is_waiting pm_room_is_waiting an_room_is_waiting cd_room_is_waiting ct_room_is_waiting), sl_room_is_waiting⟩)
    (c_room_is_waiting : PySem.W.codeIn K cd_room_is_waiting "Room.is_waiting" = true)
    (kf_room_is_waiting : PySem.W.keepIn K (.ref f_room_is_waiting) = true)
    (a_room_is_inside : PySem.W.findIn K (.ref CRoom) "is_inside" = some (some (.ref f_room_is_inside)))
    (i_room_is_inside : PySem.W.isFn K (.ref f_room_is_inside) = true)
    (l_room_is_inside : K.lookup f_room_is_inside = some ⟨oc_room_is_inside, od_room_is_inside, .func (PySem.W.fnOf "is_inside" "Room.is_inside" (defArgs s_room_is_inside) (defBody s_room_is_inside) (defScope s_room_is_inside) .none kV_room_is_inside dc_room_is_inside pm_room_is_inside an_room_is_inside cd_room_is_inside ct_room_is_inside), sl_room_is_inside⟩)
    (c_room_is_inside : PySem.W.codeIn K cd_room_is_inside "Room.is_inside" = true)
    (kf_room_is_inside : PySem.W.keepIn K (.ref f_room_is_inside) = true)
    (a_can_begin : PySem.W.nsIn K mainGlobals "can_begin" = some (some (.ref f_can_begin)))
    (l_can_begin : K.lookup f_can_begin = some ⟨oc_can_begin, od_can_begin, .func (PySem.W.fnOf "can_begin" "can_begin" (defArgs s_can_begin) (defBody s_can_begin) (defScope s_can_begin) .none kV_can_begin dc_can_begin pm_can_begin an_can_begin cd_can_begin ct_can_begin), sl_can_begin⟩)
    (c_can_begin : PySem.W.codeIn K cd_can_begin "can_begin" = true)
    (kf_can_begin : PySem.W.keepIn K (.ref f_can_begin) = true)
    (a_first_reader : PySem.W.nsIn K mainGlobals "first_reader" = some (some (.ref f_first_reader)))
    (l_first_reader : K.lookup f_first_reader = some ⟨oc_first_reader, od_first_reader, .func (PySem.W.fnOf "first_reader" "first_reader" (defArgs s_first_reader) (defBody s_first_reader) (defScope s_first_reader) .none kV_first_reader dc_first_reader pm_first_reader an_first_reader cd_first_reader ct_first_reader), sl_first_reader⟩)
    (c_first_reader : PySem.W.codeIn K cd_first_reader "first_reader" = true)
    (kf_first_reader : PySem.W.keepIn K (.ref f_first_reader) = true)
    (a_next_place : PySem.W.nsIn K mainGlobals "next_place" = some (some (.ref f_next_place)))
    (l_next_place : K.lookup f_next_place = some ⟨oc_next_place, od_next_place, .func (PySem.W.fnOf "next_place" "next_place" (defArgs s_next_place) (defBody s_next_place) (defScope s_next_place) .none kV_next_place dc_next_place pm_next_place an_next_place cd_next_place ct_next_place), sl_next_place⟩)
    (c_next_place : PySem.W.codeIn K cd_next_place "next_place" = true)
    (kf_next_place : PySem.W.keepIn K (.ref f_next_place) = true)
    (a_room_begun : PySem.W.findIn K (.ref CRoom) "begun" = some (some (.ref f_room_begun)))
    (i_room_begun : PySem.W.isFn K (.ref f_room_begun) = true)
    (l_room_begun : K.lookup f_room_begun = some ⟨oc_room_begun, od_room_begun, .func (PySem.W.fnOf "begun" "Room.begun" (defArgs s_room_begun) (defBody s_room_begun) (defScope s_room_begun) .none kV_room_begun dc_room_begun pm_room_begun an_room_begun cd_room_begun ct_room_begun), sl_room_begun⟩)
    (c_room_begun : PySem.W.codeIn K cd_room_begun "Room.begun" = true)
    (kf_room_begun : PySem.W.keepIn K (.ref f_room_begun) = true)
    (a_room_settled : PySem.W.findIn K (.ref CRoom) "settled" = some (some (.ref f_room_settled)))
    (i_room_settled : PySem.W.isFn K (.ref f_room_settled) = true)
    (l_room_settled : K.lookup f_room_settled = some ⟨oc_room_settled, od_room_settled, .func (PySem.W.fnOf "settled" "Room.settled" (defArgs s_room_settled) (defBody s_room_settled) (defScope s_room_settled) .none kV_room_settled dc_room_settled pm_room_settled an_room_settled cd_room_settled ct_room_settled), sl_room_settled⟩)
    (c_room_settled : PySem.W.codeIn K cd_room_settled "Room.settled" = true)
    (kf_room_settled : PySem.W.keepIn K (.ref f_room_settled) = true)
    (a_room_come : PySem.W.findIn K (.ref CRoom) "come" = some (some (.ref f_room_come)))
    (i_room_come : PySem.W.isFn K (.ref f_room_come) = true)
    (l_room_come : K.lookup f_room_come = some ⟨oc_room_come, od_room_come, .func (PySem.W.fnOf "come" "Room.come" (defArgs s_room_come) (defBody s_room_come) (defScope s_room_come) .none kV_room_come dc_room_come pm_room_come an_room_come cd_room_come ct_room_come), sl_room_come⟩)
    (c_room_come : PySem.W.codeIn K cd_room_come "Room.come" = true)
    (kf_room_come : PySem.W.keepIn K (.ref f_room_come) = true)
    (a_room_look : PySem.W.findIn K (.ref CRoom) "look" = some (some (.ref f_room_look)))
    (i_room_look : PySem.W.isFn K (.ref f_room_look) = true)
    (l_room_look : K.lookup f_room_look = some ⟨oc_room_look, od_room_look, .func (PySem.W.fnOf "look" "Room.look" (defArgs s_room_look) (defBody s_room_look) (defScope s_room_look) .none kV_room_look dc_room_look pm_room_look an_room_look cd_room_look ct_room_look), sl_room_look⟩)
    (c_room_look : PySem.W.codeIn K cd_room_look "Room.look" = true)
    (kf_room_look : PySem.W.keepIn K (.ref f_room_look) = true)
    (a_room_leave : PySem.W.findIn K (.ref CRoom) "leave" = some (some (.ref f_room_leave)))
    (i_room_leave : PySem.W.isFn K (.ref f_room_leave) = true)
    (l_room_leave : K.lookup f_room_leave = some ⟨oc_room_leave, od_room_leave, .func (PySem.W.fnOf "leave" "Room.leave" (defArgs s_room_leave) (defBody s_room_leave) (defScope s_room_leave) .none kV_room_leave dc_room_leave pm_room_leave an_room_leave cd_room_leave ct_room_leave), sl_room_leave⟩)
    (c_room_leave : PySem.W.codeIn K cd_room_leave "Room.leave" = true)
    (kf_room_leave : PySem.W.keepIn K (.ref f_room_leave) = true)
    (a_room_ask : PySem.W.findIn K (.ref CRoom) "ask" = some (some (.ref f_room_ask)))
    (i_room_ask : PySem.W.isFn K (.ref f_room_ask) = true)
    (l_room_ask : K.lookup f_room_ask = some ⟨oc_room_ask, od_room_ask, .func (PySem.W.fnOf "ask" "Room.ask" (defArgs s_room_ask) (defBody s_room_ask) (defScope s_room_ask) .none kV_room_ask dc_room_ask pm_room_ask an_room_ask cd_room_ask ct_room_ask), sl_room_ask⟩)
    (c_room_ask : PySem.W.codeIn K cd_room_ask "Room.ask" = true)
    (kf_room_ask : PySem.W.keepIn K (.ref f_room_ask) = true)
    (a_room_ease : PySem.W.findIn K (.ref CRoom) "ease" = some (some (.ref f_room_ease)))
    (i_room_ease : PySem.W.isFn K (.ref f_room_ease) = true)
    (l_room_ease : K.lookup f_room_ease = some ⟨oc_room_ease, od_room_ease, .func (PySem.W.fnOf "ease" "Room.ease" (defArgs s_room_ease) (defBody s_room_ease) (defScope s_room_ease) .none kV_room_ease dc_room_ease pm_room_ease an_room_ease cd_room_ease ct_room_ease), sl_room_ease⟩)
    (c_room_ease : PySem.W.codeIn K cd_room_ease "Room.ease" = true)
    (kf_room_ease : PySem.W.keepIn K (.ref f_room_ease) = true)
    (a_redone : PySem.W.nsIn K mainGlobals "redone" = some (some (.ref f_redone)))
    (l_redone : K.lookup f_redone = some ⟨oc_redone, od_redone, .func (PySem.W.fnOf "redone" "redone" (defArgs s_redone) (defBody s_redone) (defScope s_redone) .none kV_redone dc_redone pm_redone an_redone cd_redone ct_redone), sl_redone⟩)
    (c_redone : PySem.W.codeIn K cd_redone "redone" = true)
    (kf_redone : PySem.W.keepIn K (.ref f_redone) = true)
    (a_gone_through : PySem.W.nsIn K mainGlobals "gone_through" = some (some (.ref f_gone_through)))
    (l_gone_through : K.lookup f_gone_through = some ⟨oc_gone_through, od_gone_through, .func (PySem.W.fnOf "gone_through" "gone_through" (defArgs s_gone_through) (defBody s_gone_through) (defScope s_gone_through) .none kV_gone_through dc_gone_through pm_gone_through an_gone_through cd_gone_through ct_gone_through), sl_gone_through⟩)
    (c_gone_through : PySem.W.codeIn K cd_gone_through "gone_through" = true)
    (kf_gone_through : PySem.W.keepIn K (.ref f_gone_through) = true)
    (a_is_number : PySem.W.nsIn K mainGlobals "is_number" = some (some (.ref f_is_number)))
    (l_is_number : K.lookup f_is_number = some ⟨oc_is_number, od_is_number, .func (PySem.W.fnOf "is_number" "is_number" (defArgs s_is_number) (defBody s_is_number) (defScope s_is_number) .none kV_is_number dc_is_number pm_is_number an_is_number cd_is_number ct_is_number), sl_is_number⟩)
    (c_is_number : PySem.W.codeIn K cd_is_number "is_number" = true)
    (kf_is_number : PySem.W.keepIn K (.ref f_is_number) = true)
    (a_room_init : PySem.W.findIn K (.ref CRoom) "__init__" = some (some (.ref f_room_init)))
    (i_room_init : PySem.W.isFn K (.ref f_room_init) = true)
    (l_room_init : K.lookup f_room_init = some ⟨oc_room_init, od_room_init, .func (PySem.W.fnOf "__init__" "Room.__init__" (defArgs s_room_init) (defBody s_room_init) (defScope s_room_init) .none kV_room_init dc_room_init pm_room_init an_room_init cd_room_init ct_room_init), sl_room_init⟩)
    (c_room_init : PySem.W.codeIn K cd_room_init "Room.__init__" = true)
    (kf_room_init : PySem.W.keepIn K (.ref f_room_init) = true)
    (a_judged : PySem.W.nsIn K mainGlobals "judged" = some (some (.ref f_judged)))
    (l_judged : K.lookup f_judged = some ⟨oc_judged, od_judged, .func (PySem.W.fnOf "judged" "judged" (defArgs s_judged) (defBody s_judged) (defScope s_judged) .none kV_judged dc_judged pm_judged an_judged cd_judged ct_judged), sl_judged⟩)
    (c_judged : PySem.W.codeIn K cd_judged "judged" = true)
    (kf_judged : PySem.W.keepIn K (.ref f_judged) = true)
    (a_room_of : PySem.W.nsIn K mainGlobals "room_of" = some (some (.ref f_room_of)))
    (l_room_of : K.lookup f_room_of = some ⟨oc_room_of, od_room_of, .func (PySem.W.fnOf "room_of" "room_of" (defArgs s_room_of) (defBody s_room_of) (defScope s_room_of) .none kV_room_of dc_room_of pm_room_of an_room_of cd_room_of ct_room_of), sl_room_of⟩)
    (c_room_of : PySem.W.codeIn K cd_room_of "room_of" = true)
    (kf_room_of : PySem.W.keepIn K (.ref f_room_of) = true)
    (a_l_refuses : PySem.W.nsIn K mainGlobals "_law_refuses" = some (some (.ref f_l_refuses)))
    (l_l_refuses : K.lookup f_l_refuses = some ⟨oc_l_refuses, od_l_refuses, .func (PySem.W.fnOf "_law_refuses" "_law_refuses" (defArgs s_l_refuses) (defBody s_l_refuses) (defScope s_l_refuses) .none kV_l_refuses dc_l_refuses pm_l_refuses an_l_refuses cd_l_refuses ct_l_refuses), sl_l_refuses⟩)
    (c_l_refuses : PySem.W.codeIn K cd_l_refuses "_law_refuses" = true)
    (kf_l_refuses : PySem.W.keepIn K (.ref f_l_refuses) = true)
    (a_l_name : PySem.W.nsIn K mainGlobals "_law_name" = some (some (.ref f_l_name)))
    (l_l_name : K.lookup f_l_name = some ⟨oc_l_name, od_l_name, .func (PySem.W.fnOf "_law_name" "_law_name" (defArgs s_l_name) (defBody s_l_name) (defScope s_l_name) .none kV_l_name dc_l_name pm_l_name an_l_name cd_l_name ct_l_name), sl_l_name⟩)
    (c_l_name : PySem.W.codeIn K cd_l_name "_law_name" = true)
    (kf_l_name : PySem.W.keepIn K (.ref f_l_name) = true)
    (a_l_formed : PySem.W.nsIn K mainGlobals "_law_formed" = some (some (.ref f_l_formed)))
    (l_l_formed : K.lookup f_l_formed = some ⟨oc_l_formed, od_l_formed, .func (PySem.W.fnOf "_law_formed" "_law_formed" (defArgs s_l_formed) (defBody s_l_formed) (defScope s_l_formed) .none kV_l_formed dc_l_formed pm_l_formed an_l_formed cd_l_formed ct_l_formed), sl_l_formed⟩)
    (c_l_formed : PySem.W.codeIn K cd_l_formed "_law_formed" = true)
    (kf_l_formed : PySem.W.keepIn K (.ref f_l_formed) = true)
    (a_l_gone : PySem.W.nsIn K mainGlobals "_law_gone" = some (some (.ref f_l_gone)))
    (l_l_gone : K.lookup f_l_gone = some ⟨oc_l_gone, od_l_gone, .func (PySem.W.fnOf "_law_gone" "_law_gone" (defArgs s_l_gone) (defBody s_l_gone) (defScope s_l_gone) .none kV_l_gone dc_l_gone pm_l_gone an_l_gone cd_l_gone ct_l_gone), sl_l_gone⟩)
    (c_l_gone : PySem.W.codeIn K cd_l_gone "_law_gone" = true)
    (kf_l_gone : PySem.W.keepIn K (.ref f_l_gone) = true)
    (a_l_whole : PySem.W.nsIn K mainGlobals "_law_whole" = some (some (.ref f_l_whole)))
    (l_l_whole : K.lookup f_l_whole = some ⟨oc_l_whole, od_l_whole, .func (PySem.W.fnOf "_law_whole" "_law_whole" (defArgs s_l_whole) (defBody s_l_whole) (defScope s_l_whole) .none kV_l_whole dc_l_whole pm_l_whole an_l_whole cd_l_whole ct_l_whole), sl_l_whole⟩)
    (c_l_whole : PySem.W.codeIn K cd_l_whole "_law_whole" = true)
    (kf_l_whole : PySem.W.keepIn K (.ref f_l_whole) = true)
    (a_l_told : PySem.W.nsIn K mainGlobals "_law_told" = some (some (.ref f_l_told)))
    (l_l_told : K.lookup f_l_told = some ⟨oc_l_told, od_l_told, .func (PySem.W.fnOf "_law_told" "_law_told" (defArgs s_l_told) (defBody s_l_told) (defScope s_l_told) .none kV_l_told dc_l_told pm_l_told an_l_told cd_l_told ct_l_told), sl_l_told⟩)
    (c_l_told : PySem.W.codeIn K cd_l_told "_law_told" = true)
    (kf_l_told : PySem.W.keepIn K (.ref f_l_told) = true)
    (a_l_refused_rows : PySem.W.nsIn K mainGlobals "_law_refused_rows" = some (some (.ref f_l_refused_rows)))
    (l_l_refused_rows : K.lookup f_l_refused_rows = some ⟨oc_l_refused_rows, od_l_refused_rows, .func (PySem.W.fnOf "_law_refused_rows" "_law_refused_rows" (defArgs s_l_refused_rows) (defBody s_l_refused_rows) (defScope s_l_refused_rows) .none kV_l_refused_rows dc_l_refused_rows pm_l_refused_rows an_l_refused_rows cd_l_refused_rows ct_l_refused_rows), sl_l_refused_rows⟩)
    (c_l_refused_rows : PySem.W.codeIn K cd_l_refused_rows "_law_refused_rows" = true)
    (kf_l_refused_rows : PySem.W.keepIn K (.ref f_l_refused_rows) = true)
    (a_law : PySem.W.nsIn K mainGlobals "law" = some (some (.ref f_law)))
    (l_law : K.lookup f_law = some ⟨oc_law, od_law, .func (PySem.W.fnOf "law" "law" (defArgs s_law) (defBody s_law) (defScope s_law) .none kV_law dc_law pm_law an_law cd_law ct_law), sl_law⟩)
    (c_law : PySem.W.codeIn K cd_law "law" = true)
    (kf_law : PySem.W.keepIn K (.ref f_law) = true) :
    ∃ fd : FuncData, (∀ (s : Shared) (v : Value), BindsTo s fd ⟨[v], []⟩ [("_law_script", v)]) ∧ ∀ base : Heap, K.In base → base.Ns mainGlobals mg → FnD P w K mg base 10 fa fd ["_law_script"] mLaw := by
  have e := hfa.symm.trans (PySem.W.mg_of X G a_law)
  cases e
  have T : Txt K mg ⟨CRoom, CRoomError, CBadName, CBadWish, CBadNumber, CKnown, CStranger, COutside, CInside, CReads, CWrites, CAsked, CBadText, CBadJournal⟩ := ⟨trivial, PySem.W.mg_none_of X G z_ValueError, PySem.W.mg_none_of X G z_bool, PySem.W.mg_none_of X G z_dict, PySem.W.mg_none_of X G z_enumerate, PySem.W.mg_none_of X G z_int, PySem.W.mg_none_of X G z_isinstance, PySem.W.mg_none_of X G z_len, PySem.W.mg_none_of X G z_list, PySem.W.mg_none_of X G z_max, PySem.W.mg_none_of X G z_range, PySem.W.mg_none_of X G z_str, PySem.W.mg_none_of X G z_tuple, ⟨_, PySem.W.mg_of X G v_LONGEST, ⟨_, rfl⟩⟩, ⟨_, PySem.W.mg_of X G v_MOST, ⟨_, rfl⟩⟩, ⟨_, PySem.W.mg_of X G v_SIGNS, ⟨_, rfl⟩⟩, PySem.W.mg_of X G aCRoomError, PySem.W.mg_of X G aCBadName, PySem.W.mg_of X G aCBadWish, PySem.W.mg_of X G aCBadNumber, PySem.W.mg_of X G aCKnown, PySem.W.mg_of X G aCStranger, PySem.W.mg_of X G aCOutside, PySem.W.mg_of X G aCInside, PySem.W.mg_of X G aCReads, PySem.W.mg_of X G aCWrites, PySem.W.mg_of X G aCAsked, PySem.W.mg_of X G aCBadText, PySem.W.mg_of X G aCBadJournal, x_BadName, k_BadName, s_BadName, t_BadName, e_BadName_RoomError, x_BadWish, k_BadWish, s_BadWish, t_BadWish, e_BadWish_RoomError, x_BadNumber, k_BadNumber, s_BadNumber, t_BadNumber, e_BadNumber_RoomError, e_BadNumber_BadNumber, x_Known, k_Known, s_Known, t_Known, e_Known_RoomError, x_Stranger, k_Stranger, s_Stranger, t_Stranger, e_Stranger_RoomError, x_Outside, k_Outside, s_Outside, t_Outside, e_Outside_RoomError, x_Reads, k_Reads, s_Reads, t_Reads, e_Reads_RoomError, x_Writes, k_Writes, s_Writes, t_Writes, e_Writes_RoomError, x_Asked, k_Asked, s_Asked, t_Asked, e_Asked_RoomError, x_BadJournal, k_BadJournal, s_BadJournal, t_BadJournal, e_BadJournal_RoomError, ⟨ecg_BadJournal, eck_BadJournal, ecs_BadJournal, ecd_BadJournal, eca_BadJournal, ecn_BadJournal, ect_BadJournal, ecm_BadJournal⟩, i_BadJournal_BadName, i_BadJournal_BadWish, i_BadJournal_BadNumber, i_BadJournal_Known, i_BadJournal_Stranger, i_BadJournal_Outside, i_BadJournal_Inside, i_BadJournal_Reads, i_BadJournal_Writes, i_BadJournal_Asked, i_BadJournal_BadText, i_BadJournal_BadJournal, i_BadJournal_ValueError, ⟨pg, hd, po, sa⟩, PySem.W.mg_of X G aCRoom, no_alone, no_asking, no_patience, no_reading, no_rows, no_seats, no_waiting⟩
  have F_l_cell_at := fun_mk (st := s_l_cell_at) l_l_cell_at c_l_cell_at kf_l_cell_at
  have b_l_cell_at := F_l_cell_at.binds (ps := ["_law_script", "_law_k"]) fun _ _ _ _ _ _ us hl => match us, hl with | [_, _], _ => rfl
  have F_l_number_by := fun_mk (st := s_l_number_by) l_l_number_by c_l_number_by kf_l_number_by
  have b_l_number_by := F_l_number_by.binds (ps := ["_law_cell", "_law_least"]) fun _ _ _ _ _ _ us hl => match us, hl with | [_, _], _ => rfl
  have F_l_seats := fun_mk (st := s_l_seats) l_l_seats c_l_seats kf_l_seats
  have b_l_seats := F_l_seats.binds (ps := ["_law_script"]) fun _ _ _ _ _ _ us hl => match us, hl with | [_], _ => rfl
  have F_l_patience := fun_mk (st := s_l_patience) l_l_patience c_l_patience kf_l_patience
  have b_l_patience := F_l_patience.binds (ps := ["_law_script"]) fun _ _ _ _ _ _ us hl => match us, hl with | [_], _ => rfl
  have F_l_people := fun_mk (st := s_l_people) l_l_people c_l_people kf_l_people
  have b_l_people := F_l_people.binds (ps := ["_law_cell", "_law_many"]) fun _ _ _ _ _ _ us hl => match us, hl with | [_, _], _ => rfl
  have F_l_names := fun_mk (st := s_l_names) l_l_names c_l_names kf_l_names
  have b_l_names := F_l_names.binds (ps := ["_law_script", "_law_many"]) fun _ _ _ _ _ _ us hl => match us, hl with | [_, _], _ => rfl
  have F_l_wish_by := fun_mk (st := s_l_wish_by) l_l_wish_by c_l_wish_by kf_l_wish_by
  have b_l_wish_by := F_l_wish_by.binds (ps := ["_law_cell"]) fun _ _ _ _ _ _ us hl => match us, hl with | [_], _ => rfl
  have F_l_crowd := fun_mk (st := s_l_crowd) l_l_crowd c_l_crowd kf_l_crowd
  have b_l_crowd := F_l_crowd.binds (ps := ["_law_script", "_law_many"]) fun _ _ _ _ _ _ us hl => match us, hl with | [_, _], _ => rfl
  have F_l_fresh := fun_mk (st := s_l_fresh) l_l_fresh c_l_fresh kf_l_fresh
  have b_l_fresh := F_l_fresh.binds (ps := []) fun _ _ _ _ _ _ us hl => match us, hl with | [], _ => rfl
  have F_l_deed_by := fun_mk (st := s_l_deed_by) l_l_deed_by c_l_deed_by kf_l_deed_by
  have b_l_deed_by := F_l_deed_by.binds (ps := ["_law_cell", "_law_people_here", "_law_inside_here", "_law_waits"]) fun _ _ _ _ _ _ us hl => match us, hl with | [_, _, _, _], _ => rfl
  have F_l_inside := fun_mk (st := s_l_inside) l_l_inside c_l_inside kf_l_inside
  have b_l_inside := F_l_inside.binds (ps := ["_law_now"]) fun _ _ _ _ _ _ us hl => match us, hl with | [_], _ => rfl
  have F_l_known := fun_mk (st := s_l_known) l_l_known c_l_known kf_l_known
  have b_l_known := F_l_known.binds (ps := ["_law_now", "_law_who"]) fun _ _ _ _ _ _ us hl => match us, hl with | [_, _], _ => rfl
  have F_l_refused := fun_mk (st := s_l_refused) l_l_refused c_l_refused kf_l_refused
  have b_l_refused := F_l_refused.binds (ps := ["_law_now", "_law_deed"]) fun _ _ _ _ _ _ us hl => match us, hl with | [_, _], _ => rfl
  have F_l_deed_done := fun_mk (st := s_l_deed_done) l_l_deed_done c_l_deed_done kf_l_deed_done
  have b_l_deed_done := F_l_deed_done.binds (ps := ["_law_now", "_law_deed"]) fun _ _ _ _ _ _ us hl => match us, hl with | [_, _], _ => rfl
  have F_l_row := fun_mk (st := s_l_row) l_l_row c_l_row kf_l_row
  have b_l_row := F_l_row.binds (ps := ["_law_deed"]) fun _ _ _ _ _ _ us hl => match us, hl with | [_], _ => rfl
  have F_l_next := fun_mk (st := s_l_next) l_l_next c_l_next kf_l_next
  have b_l_next := F_l_next.binds (ps := ["_law_now", "_law_seats_here", "_law_patience_here"]) fun _ _ _ _ _ _ us hl => match us, hl with | [_, _, _], _ => rfl
  have F_l_pair := fun_mk (st := s_l_pair) l_l_pair c_l_pair kf_l_pair
  have b_l_pair := F_l_pair.binds (ps := ["_law_now", "_law_place"]) fun _ _ _ _ _ _ us hl => match us, hl with | [_, _], _ => rfl
  have F_l_began := fun_mk (st := s_l_began) l_l_began c_l_began kf_l_began
  have b_l_began := F_l_began.binds (ps := ["_law_now", "_law_place"]) fun _ _ _ _ _ _ us hl => match us, hl with | [_, _], _ => rfl
  have F_l_journal := fun_mk (st := s_l_journal) l_l_journal c_l_journal kf_l_journal
  have b_l_journal := F_l_journal.binds (ps := ["_law_script", "_law_seats_here", "_law_patience_here"]) fun _ _ _ _ _ _ us hl => match us, hl with | [_, _, _], _ => rfl
  have F_l_misspelt := fun_mk (st := s_l_misspelt) l_l_misspelt c_l_misspelt kf_l_misspelt
  have b_l_misspelt := F_l_misspelt.binds (ps := ["_law_rows", "_law_more"]) fun _ _ _ _ _ _ us hl => match us, hl with | [_, _], _ => rfl
  have F_l_other_row := fun_mk (st := s_l_other_row) l_l_other_row c_l_other_row kf_l_other_row
  have b_l_other_row := F_l_other_row.binds (ps := ["_law_row_here", "_law_way", "_law_cell", "_law_ahead"]) fun _ _ _ _ _ _ us hl => match us, hl with | [_, _, _, _], _ => rfl
  have F_l_spoilt := fun_mk (st := s_l_spoilt) l_l_spoilt c_l_spoilt kf_l_spoilt
  have b_l_spoilt := F_l_spoilt.binds (ps := ["_law_rows", "_law_cell", "_law_more"]) fun _ _ _ _ _ _ us hl => match us, hl with | [_, _, _], _ => rfl
  have F_is_row := fun_mk (st := s_is_row) l_is_row c_is_row kf_is_row
  have b_is_row := F_is_row.binds (ps := ["row"]) fun _ _ _ _ _ _ us hl => match us, hl with | [_], _ => rfl
  have F_is_name := fun_mk (st := s_is_name) l_is_name c_is_name kf_is_name
  have b_is_name := F_is_name.binds (ps := ["thing"]) fun _ _ _ _ _ _ us hl => match us, hl with | [_], _ => rfl
  have F_is_wish := fun_mk (st := s_is_wish) l_is_wish c_is_wish kf_is_wish
  have b_is_wish := F_is_wish.binds (ps := ["thing"]) fun _ _ _ _ _ _ us hl => match us, hl with | [_], _ => rfl
  have F_room_is_waiting := fun_mk (st := s_room_is_waiting) l_room_is_waiting c_room_is_waiting kf_room_is_waiting
  have b_room_is_waiting := F_room_is_waiting.binds (ps := ["self", "name"]) fun _ _ _ _ _ _ us hl => match us, hl with | [_, _], _ => rfl
  have F_room_is_inside := fun_mk (st := s_room_is_inside) l_room_is_inside c_room_is_inside kf_room_is_inside
  have b_room_is_inside := F_room_is_inside.binds (ps := ["self", "name"]) fun _ _ _ _ _ _ us hl => match us, hl with | [_, _], _ => rfl
  have F_can_begin := fun_mk (st := s_can_begin) l_can_begin c_can_begin kf_can_begin
  have b_can_begin := F_can_begin.binds (ps := ["seats", "reading", "writes", "wish"]) fun _ _ _ _ _ _ us hl => match us, hl with | [_, _, _, _], _ => rfl
  have F_first_reader := fun_mk (st := s_first_reader) l_first_reader c_first_reader kf_first_reader
  have b_first_reader := F_first_reader.binds (ps := ["line"]) fun _ _ _ _ _ _ us hl => match us, hl with | [_], _ => rfl
  have F_next_place := fun_mk (st := s_next_place) l_next_place c_next_place kf_next_place
  have b_next_place := F_next_place.binds (ps := ["line", "seats", "patience", "reading", "writes"]) fun _ _ _ _ _ _ us hl => match us, hl with | [_, _, _, _, _], _ => rfl
  have F_room_begun := fun_mk (st := s_room_begun) l_room_begun c_room_begun kf_room_begun
  have b_room_begun := F_room_begun.binds (ps := ["self"]) fun _ _ _ _ _ _ us hl => match us, hl with | [_], _ => rfl
  have F_room_settled := fun_mk (st := s_room_settled) l_room_settled c_room_settled kf_room_settled
  have b_room_settled := F_room_settled.binds (ps := ["self", "row"]) fun _ _ _ _ _ _ us hl => match us, hl with | [_, _], _ => rfl
  have F_room_come := fun_mk (st := s_room_come) l_room_come c_room_come kf_room_come
  have b_room_come := F_room_come.binds (ps := ["self", "name", "wish"]) fun _ _ _ _ _ _ us hl => match us, hl with | [_, _, _], _ => rfl
  have F_room_look := fun_mk (st := s_room_look) l_room_look c_room_look kf_room_look
  have b_room_look := F_room_look.binds (ps := ["self", "name"]) fun _ _ _ _ _ _ us hl => match us, hl with | [_, _], _ => rfl
  have F_room_leave := fun_mk (st := s_room_leave) l_room_leave c_room_leave kf_room_leave
  have b_room_leave := F_room_leave.binds (ps := ["self", "name"]) fun _ _ _ _ _ _ us hl => match us, hl with | [_, _], _ => rfl
  have F_room_ask := fun_mk (st := s_room_ask) l_room_ask c_room_ask kf_room_ask
  have b_room_ask := F_room_ask.binds (ps := ["self", "name"]) fun _ _ _ _ _ _ us hl => match us, hl with | [_, _], _ => rfl
  have F_room_ease := fun_mk (st := s_room_ease) l_room_ease c_room_ease kf_room_ease
  have b_room_ease := F_room_ease.binds (ps := ["self", "name"]) fun _ _ _ _ _ _ us hl => match us, hl with | [_, _], _ => rfl
  have F_redone := fun_mk (st := s_redone) l_redone c_redone kf_redone
  have b_redone := F_redone.binds (ps := ["room", "row"]) fun _ _ _ _ _ _ us hl => match us, hl with | [_, _], _ => rfl
  have F_gone_through := fun_mk (st := s_gone_through) l_gone_through c_gone_through kf_gone_through
  have b_gone_through := F_gone_through.binds (ps := ["room", "rows"]) fun _ _ _ _ _ _ us hl => match us, hl with | [_, _], _ => rfl
  have F_is_number := fun_mk (st := s_is_number) l_is_number c_is_number kf_is_number
  have b_is_number := F_is_number.binds (ps := ["thing", "least"]) fun _ _ _ _ _ _ us hl => match us, hl with | [_, _], _ => rfl
  have F_room_init := fun_mk (st := s_room_init) l_room_init c_room_init kf_room_init
  have b_room_init := F_room_init.binds (ps := ["self", "seats", "patience"]) fun _ _ _ _ _ _ us hl => match us, hl with | [_, _, _], _ => rfl
  have F_judged := fun_mk (st := s_judged) l_judged c_judged kf_judged
  have b_judged := F_judged.binds (ps := ["seats", "patience", "rows"]) fun _ _ _ _ _ _ us hl => match us, hl with | [_, _, _], _ => rfl
  have F_room_of := fun_mk (st := s_room_of) l_room_of c_room_of kf_room_of
  have b_room_of := F_room_of.binds (ps := ["seats", "patience", "rows"]) fun _ _ _ _ _ _ us hl => match us, hl with | [_, _, _], _ => rfl
  have F_l_refuses := fun_mk (st := s_l_refuses) l_l_refuses c_l_refuses kf_l_refuses
  have b_l_refuses := F_l_refuses.binds (ps := ["_law_seats_here", "_law_patience_here", "_law_rows"]) fun _ _ _ _ _ _ us hl => match us, hl with | [_, _, _], _ => rfl
  have F_l_name := fun_mk (st := s_l_name) l_l_name c_l_name kf_l_name
  have b_l_name := F_l_name.binds (ps := ["_law_thing"]) fun _ _ _ _ _ _ us hl => match us, hl with | [_], _ => rfl
  have F_l_formed := fun_mk (st := s_l_formed) l_l_formed c_l_formed kf_l_formed
  have b_l_formed := F_l_formed.binds (ps := ["_law_row_here"]) fun _ _ _ _ _ _ us hl => match us, hl with | [_], _ => rfl
  have F_l_gone := fun_mk (st := s_l_gone) l_l_gone c_l_gone kf_l_gone
  have b_l_gone := F_l_gone.binds (ps := ["_law_rows", "_law_seats_here", "_law_patience_here"]) fun _ _ _ _ _ _ us hl => match us, hl with | [_, _, _], _ => rfl
  have F_l_whole := fun_mk (st := s_l_whole) l_l_whole c_l_whole kf_l_whole
  have b_l_whole := F_l_whole.binds (ps := ["_law_found"]) fun _ _ _ _ _ _ us hl => match us, hl with | [_], _ => rfl
  have F_l_told := fun_mk (st := s_l_told) l_l_told c_l_told kf_l_told
  have b_l_told := F_l_told.binds (ps := ["_law_found", "_law_due"]) fun _ _ _ _ _ _ us hl => match us, hl with | [_, _], _ => rfl
  have F_l_refused_rows := fun_mk (st := s_l_refused_rows) l_l_refused_rows c_l_refused_rows kf_l_refused_rows
  have b_l_refused_rows := F_l_refused_rows.binds (ps := ["_law_seats_here", "_law_patience_here", "_law_rows"]) fun _ _ _ _ _ _ us hl => match us, hl with | [_, _, _], _ => rfl
  have F_law := fun_mk (st := s_law) l_law c_law kf_law
  have b_law := F_law.binds (ps := ["_law_script"]) fun _ _ _ _ _ _ us hl => match us, hl with | [_], _ => rfl
  refine ⟨PySem.W.fnOf "law" "law" (defArgs s_law) (defBody s_law) (defScope s_law) .none kV_law dc_law pm_law an_law cd_law ct_law, fun s v => .of_eq rfl, fun base _ _ => ?_⟩
  have h_l_cell_at := (⟨_, _, PySem.W.mg_of X G a_l_cell_at, kf_l_cell_at, b_l_cell_at, ok_l_cell_at F_l_cell_at T⟩ : Has P w K mg base "_law_cell_at" ["_law_script", "_law_k"] 1 m_l_cell_at)
  have h_l_number_by := (⟨_, _, PySem.W.mg_of X G a_l_number_by, kf_l_number_by, b_l_number_by, ok_l_number_by F_l_number_by T⟩ : Has P w K mg base "_law_number_by" ["_law_cell", "_law_least"] 1 m_l_number_by)
  have h_l_seats := (⟨_, _, PySem.W.mg_of X G a_l_seats, kf_l_seats, b_l_seats, ok_l_seats F_l_seats T h_l_cell_at h_l_number_by⟩ : Has P w K mg base "_law_seats" ["_law_script"] 2 m_l_seats)
  have h_l_patience := (⟨_, _, PySem.W.mg_of X G a_l_patience, kf_l_patience, b_l_patience, ok_l_patience F_l_patience T h_l_cell_at h_l_number_by⟩ : Has P w K mg base "_law_patience" ["_law_script"] 2 m_l_patience)
  have h_l_people := (⟨_, _, PySem.W.mg_of X G a_l_people, kf_l_people, b_l_people, ok_l_people F_l_people T⟩ : Has P w K mg base "_law_people" ["_law_cell", "_law_many"] 1 m_l_people)
  have h_l_names := (⟨_, _, PySem.W.mg_of X G a_l_names, kf_l_names, b_l_names, ok_l_names F_l_names T h_l_cell_at h_l_people⟩ : Has P w K mg base "_law_names" ["_law_script", "_law_many"] 2 m_l_names)
  have h_l_wish_by := (⟨_, _, PySem.W.mg_of X G a_l_wish_by, kf_l_wish_by, b_l_wish_by, ok_l_wish_by F_l_wish_by T⟩ : Has P w K mg base "_law_wish_by" ["_law_cell"] 1 m_l_wish_by)
  have h_l_crowd := (⟨_, _, PySem.W.mg_of X G a_l_crowd, kf_l_crowd, b_l_crowd, ok_l_crowd F_l_crowd T h_l_people h_l_cell_at h_l_wish_by⟩ : Has P w K mg base "_law_crowd" ["_law_script", "_law_many"] 2 m_l_crowd)
  have h_l_fresh := (⟨_, _, PySem.W.mg_of X G a_l_fresh, kf_l_fresh, b_l_fresh, ok_l_fresh F_l_fresh T⟩ : Has P w K mg base "_law_fresh" [] 1 m_l_fresh)
  have h_l_deed_by := (⟨_, _, PySem.W.mg_of X G a_l_deed_by, kf_l_deed_by, b_l_deed_by, ok_l_deed_by F_l_deed_by T h_l_wish_by⟩ : Has P w K mg base "_law_deed_by" ["_law_cell", "_law_people_here", "_law_inside_here", "_law_waits"] 2 m_l_deed_by)
  have h_l_inside := (⟨_, _, PySem.W.mg_of X G a_l_inside, kf_l_inside, b_l_inside, ok_l_inside F_l_inside T⟩ : Has P w K mg base "_law_inside" ["_law_now"] 1 m_l_inside)
  have h_l_known := (⟨_, _, PySem.W.mg_of X G a_l_known, kf_l_known, b_l_known, ok_l_known F_l_known T⟩ : Has P w K mg base "_law_known" ["_law_now", "_law_who"] 1 m_l_known)
  have h_l_refused := (⟨_, _, PySem.W.mg_of X G a_l_refused, kf_l_refused, b_l_refused, ok_l_refused F_l_refused T h_l_known⟩ : Has P w K mg base "_law_refused" ["_law_now", "_law_deed"] 2 m_l_refused)
  have h_l_deed_done := (⟨_, _, PySem.W.mg_of X G a_l_deed_done, kf_l_deed_done, b_l_deed_done, ok_l_deed_done F_l_deed_done T⟩ : Has P w K mg base "_law_deed_done" ["_law_now", "_law_deed"] 1 m_l_deed_done)
  have h_l_row := (⟨_, _, PySem.W.mg_of X G a_l_row, kf_l_row, b_l_row, ok_l_row F_l_row T⟩ : Has P w K mg base "_law_row" ["_law_deed"] 1 m_l_row)
  have h_l_next := (⟨_, _, PySem.W.mg_of X G a_l_next, kf_l_next, b_l_next, ok_l_next F_l_next T⟩ : Has P w K mg base "_law_next" ["_law_now", "_law_seats_here", "_law_patience_here"] 1 m_l_next)
  have h_l_pair := (⟨_, _, PySem.W.mg_of X G a_l_pair, kf_l_pair, b_l_pair, ok_l_pair F_l_pair T⟩ : Has P w K mg base "_law_pair" ["_law_now", "_law_place"] 1 m_l_pair)
  have h_l_began := (⟨_, _, PySem.W.mg_of X G a_l_began, kf_l_began, b_l_began, ok_l_began F_l_began T⟩ : Has P w K mg base "_law_began" ["_law_now", "_law_place"] 1 m_l_began)
  have h_l_journal := (⟨_, _, PySem.W.mg_of X G a_l_journal, kf_l_journal, b_l_journal, ok_l_journal F_l_journal T h_l_cell_at h_l_names h_l_crowd h_l_fresh h_l_deed_by h_l_inside h_l_refused h_l_deed_done h_l_row h_l_next h_l_pair h_l_began⟩ : Has P w K mg base "_law_journal" ["_law_script", "_law_seats_here", "_law_patience_here"] 3 m_l_journal)
  have h_l_misspelt := (⟨_, _, PySem.W.mg_of X G a_l_misspelt, kf_l_misspelt, b_l_misspelt, ok_l_misspelt F_l_misspelt T⟩ : Has P w K mg base "_law_misspelt" ["_law_rows", "_law_more"] 1 m_l_misspelt)
  have h_l_other_row := (⟨_, _, PySem.W.mg_of X G a_l_other_row, kf_l_other_row, b_l_other_row, ok_l_other_row F_l_other_row T⟩ : Has P w K mg base "_law_other_row" ["_law_row_here", "_law_way", "_law_cell", "_law_ahead"] 1 m_l_other_row)
  have h_l_spoilt := (⟨_, _, PySem.W.mg_of X G a_l_spoilt, kf_l_spoilt, b_l_spoilt, ok_l_spoilt F_l_spoilt T h_l_misspelt h_l_other_row⟩ : Has P w K mg base "_law_spoilt" ["_law_rows", "_law_cell", "_law_more"] 2 m_l_spoilt)
  have h_is_row := (⟨_, _, PySem.W.mg_of X G a_is_row, kf_is_row, b_is_row, ok_is_row F_is_row T⟩ : Has P w K mg base "is_row" ["row"] 1 m_is_row)
  have h_is_name := (⟨_, _, PySem.W.mg_of X G a_is_name, kf_is_name, b_is_name, ok_is_name F_is_name T⟩ : Has P w K mg base "is_name" ["thing"] 1 m_is_name)
  have h_is_wish := (⟨_, _, PySem.W.mg_of X G a_is_wish, kf_is_wish, b_is_wish, ok_is_wish F_is_wish T⟩ : Has P w K mg base "is_wish" ["thing"] 1 m_is_wish)
  have h_room_is_waiting := (⟨_, _, ⟨a_room_is_waiting, i_room_is_waiting, kf_room_is_waiting⟩, b_room_is_waiting, ok_room_is_waiting F_room_is_waiting T⟩ : HasM P w K mg base CRoom "is_waiting" ["self", "name"] 1 (m_room_is_waiting ⟨CRoom, CRoomError, CBadName, CBadWish, CBadNumber, CKnown, CStranger, COutside, CInside, CReads, CWrites, CAsked, CBadText, CBadJournal⟩))
  have h_room_is_inside := (⟨_, _, ⟨a_room_is_inside, i_room_is_inside, kf_room_is_inside⟩, b_room_is_inside, ok_room_is_inside F_room_is_inside T⟩ : HasM P w K mg base CRoom "is_inside" ["self", "name"] 1 (m_room_is_inside ⟨CRoom, CRoomError, CBadName, CBadWish, CBadNumber, CKnown, CStranger, COutside, CInside, CReads, CWrites, CAsked, CBadText, CBadJournal⟩))
  have h_can_begin := (⟨_, _, PySem.W.mg_of X G a_can_begin, kf_can_begin, b_can_begin, ok_can_begin F_can_begin T⟩ : Has P w K mg base "can_begin" ["seats", "reading", "writes", "wish"] 1 m_can_begin)
  have h_first_reader := (⟨_, _, PySem.W.mg_of X G a_first_reader, kf_first_reader, b_first_reader, ok_first_reader F_first_reader T⟩ : Has P w K mg base "first_reader" ["line"] 1 m_first_reader)
  have h_next_place := (⟨_, _, PySem.W.mg_of X G a_next_place, kf_next_place, b_next_place, ok_next_place F_next_place T h_can_begin h_first_reader⟩ : Has P w K mg base "next_place" ["line", "seats", "patience", "reading", "writes"] 2 m_next_place)
  have h_room_begun := (⟨_, _, ⟨a_room_begun, i_room_begun, kf_room_begun⟩, b_room_begun, ok_room_begun F_room_begun T h_next_place⟩ : HasM P w K mg base CRoom "begun" ["self"] 3 (m_room_begun ⟨CRoom, CRoomError, CBadName, CBadWish, CBadNumber, CKnown, CStranger, COutside, CInside, CReads, CWrites, CAsked, CBadText, CBadJournal⟩))
  have h_room_settled := (⟨_, _, ⟨a_room_settled, i_room_settled, kf_room_settled⟩, b_room_settled, ok_room_settled F_room_settled T h_room_begun⟩ : HasM P w K mg base CRoom "settled" ["self", "row"] 4 (m_room_settled ⟨CRoom, CRoomError, CBadName, CBadWish, CBadNumber, CKnown, CStranger, COutside, CInside, CReads, CWrites, CAsked, CBadText, CBadJournal⟩))
  have h_room_come := (⟨_, _, ⟨a_room_come, i_room_come, kf_room_come⟩, b_room_come, ok_room_come F_room_come T h_is_name h_is_wish h_room_is_waiting h_room_is_inside h_room_settled⟩ : HasM P w K mg base CRoom "come" ["self", "name", "wish"] 5 (m_room_come ⟨CRoom, CRoomError, CBadName, CBadWish, CBadNumber, CKnown, CStranger, COutside, CInside, CReads, CWrites, CAsked, CBadText, CBadJournal⟩))
  have h_room_look := (⟨_, _, ⟨a_room_look, i_room_look, kf_room_look⟩, b_room_look, ok_room_look F_room_look T h_room_is_waiting h_room_is_inside h_is_name⟩ : HasM P w K mg base CRoom "look" ["self", "name"] 2 (m_room_look ⟨CRoom, CRoomError, CBadName, CBadWish, CBadNumber, CKnown, CStranger, COutside, CInside, CReads, CWrites, CAsked, CBadText, CBadJournal⟩))
  have h_room_leave := (⟨_, _, ⟨a_room_leave, i_room_leave, kf_room_leave⟩, b_room_leave, ok_room_leave F_room_leave T h_room_look h_room_settled⟩ : HasM P w K mg base CRoom "leave" ["self", "name"] 5 (m_room_leave ⟨CRoom, CRoomError, CBadName, CBadWish, CBadNumber, CKnown, CStranger, COutside, CInside, CReads, CWrites, CAsked, CBadText, CBadJournal⟩))
  have h_room_ask := (⟨_, _, ⟨a_room_ask, i_room_ask, kf_room_ask⟩, b_room_ask, ok_room_ask F_room_ask T h_room_look h_room_is_waiting h_room_settled⟩ : HasM P w K mg base CRoom "ask" ["self", "name"] 5 (m_room_ask ⟨CRoom, CRoomError, CBadName, CBadWish, CBadNumber, CKnown, CStranger, COutside, CInside, CReads, CWrites, CAsked, CBadText, CBadJournal⟩))
  have h_room_ease := (⟨_, _, ⟨a_room_ease, i_room_ease, kf_room_ease⟩, b_room_ease, ok_room_ease F_room_ease T h_room_look h_room_is_waiting h_room_settled⟩ : HasM P w K mg base CRoom "ease" ["self", "name"] 5 (m_room_ease ⟨CRoom, CRoomError, CBadName, CBadWish, CBadNumber, CKnown, CStranger, COutside, CInside, CReads, CWrites, CAsked, CBadText, CBadJournal⟩))
  have h_redone := (⟨_, _, PySem.W.mg_of X G a_redone, kf_redone, b_redone, ok_redone F_redone T h_room_come h_room_leave h_room_ask h_room_ease⟩ : Has P w K mg base "redone" ["room", "row"] 6 (m_redone ⟨CRoom, CRoomError, CBadName, CBadWish, CBadNumber, CKnown, CStranger, COutside, CInside, CReads, CWrites, CAsked, CBadText, CBadJournal⟩))
  have h_gone_through := (⟨_, _, PySem.W.mg_of X G a_gone_through, kf_gone_through, b_gone_through, ok_gone_through F_gone_through T h_is_row h_redone⟩ : Has P w K mg base "gone_through" ["room", "rows"] 7 (m_gone_through ⟨CRoom, CRoomError, CBadName, CBadWish, CBadNumber, CKnown, CStranger, COutside, CInside, CReads, CWrites, CAsked, CBadText, CBadJournal⟩))
  have h_is_number := (⟨_, _, PySem.W.mg_of X G a_is_number, kf_is_number, b_is_number, ok_is_number F_is_number T⟩ : Has P w K mg base "is_number" ["thing", "least"] 1 m_is_number)
  have h_room_init := (⟨_, _, ⟨mk, a_room_init, i_room_init, kc⟩, b_room_init, ok_room_init F_room_init T h_is_number⟩ : HasI P w K mg base CRoom ["self", "seats", "patience"] 2 (m_room_init ⟨CRoom, CRoomError, CBadName, CBadWish, CBadNumber, CKnown, CStranger, COutside, CInside, CReads, CWrites, CAsked, CBadText, CBadJournal⟩))
  have h_judged := (⟨_, _, PySem.W.mg_of X G a_judged, kf_judged, b_judged, ok_judged F_judged T h_gone_through h_room_init⟩ : Has P w K mg base "judged" ["seats", "patience", "rows"] 8 (m_judged ⟨CRoom, CRoomError, CBadName, CBadWish, CBadNumber, CKnown, CStranger, COutside, CInside, CReads, CWrites, CAsked, CBadText, CBadJournal⟩))
  have h_room_of := (⟨_, _, PySem.W.mg_of X G a_room_of, kf_room_of, b_room_of, ok_room_of F_room_of T h_room_init h_gone_through⟩ : Has P w K mg base "room_of" ["seats", "patience", "rows"] 8 (m_room_of ⟨CRoom, CRoomError, CBadName, CBadWish, CBadNumber, CKnown, CStranger, COutside, CInside, CReads, CWrites, CAsked, CBadText, CBadJournal⟩))
  have h_l_refuses := (⟨_, _, PySem.W.mg_of X G a_l_refuses, kf_l_refuses, b_l_refuses, ok_l_refuses F_l_refuses T h_judged h_room_of⟩ : Has P w K mg base "_law_refuses" ["_law_seats_here", "_law_patience_here", "_law_rows"] 9 (m_l_refuses ⟨CRoom, CRoomError, CBadName, CBadWish, CBadNumber, CKnown, CStranger, COutside, CInside, CReads, CWrites, CAsked, CBadText, CBadJournal⟩))
  have h_l_name := (⟨_, _, PySem.W.mg_of X G a_l_name, kf_l_name, b_l_name, ok_l_name F_l_name T⟩ : Has P w K mg base "_law_name" ["_law_thing"] 1 m_l_name)
  have h_l_formed := (⟨_, _, PySem.W.mg_of X G a_l_formed, kf_l_formed, b_l_formed, ok_l_formed F_l_formed T h_l_name⟩ : Has P w K mg base "_law_formed" ["_law_row_here"] 2 m_l_formed)
  have h_l_gone := (⟨_, _, PySem.W.mg_of X G a_l_gone, kf_l_gone, b_l_gone, ok_l_gone F_l_gone T h_l_fresh h_l_next h_l_pair h_l_began h_l_refused h_l_formed h_l_deed_done⟩ : Has P w K mg base "_law_gone" ["_law_rows", "_law_seats_here", "_law_patience_here"] 3 m_l_gone)
  have h_l_whole := (⟨_, _, PySem.W.mg_of X G a_l_whole, kf_l_whole, b_l_whole, ok_l_whole F_l_whole T⟩ : Has P w K mg base "_law_whole" ["_law_found"] 1 m_l_whole)
  have h_l_told := (⟨_, _, PySem.W.mg_of X G a_l_told, kf_l_told, b_l_told, ok_l_told F_l_told T h_l_whole⟩ : Has P w K mg base "_law_told" ["_law_found", "_law_due"] 2 m_l_told)
  have h_l_refused_rows := (⟨_, _, PySem.W.mg_of X G a_l_refused_rows, kf_l_refused_rows, b_l_refused_rows, ok_l_refused_rows F_l_refused_rows T h_room_of⟩ : Has P w K mg base "_law_refused_rows" ["_law_seats_here", "_law_patience_here", "_law_rows"] 9 (m_l_refused_rows ⟨CRoom, CRoomError, CBadName, CBadWish, CBadNumber, CKnown, CStranger, COutside, CInside, CReads, CWrites, CAsked, CBadText, CBadJournal⟩))
  exact ok_law F_law T h_l_seats h_l_patience h_l_journal h_l_spoilt h_l_cell_at h_l_refuses h_l_gone h_judged h_l_told h_l_refused_rows
end My
open PySem PySem.W PyProof.Rows
set_option maxRecDepth 100000 in
set_option maxHeartbeats 0 in
theorem PySem.Challenge.cw_readwriteroom_k13_whole_judged_holds : PySem.Challenge.rw_readwriteroom_k13_whole_judged.Holds := by
  w_on; o_law; k_head; (case hw => w_witness2)
  k_fill
  refine DL.walkD (l := PySem.Challenge.rw_readwriteroom_k13_whole_judged) (k := 10) (x := "_law_script") rfl rfl ⟨rfl, by decide, by decide⟩ (fun w h Y => PySem.W.kIn_of Y) ?F
  case F =>
    intro w mg fa h KX G hmg
    refine' My.all_mk KX G hmg ?aCRoomError ?aCBadName ?aCBadWish ?aCBadNumber ?aCKnown ?aCStranger ?aCOutside ?aCInside ?aCReads ?aCWrites ?aCAsked ?aCBadText ?aCBadJournal ?x_BadName ?k_BadName ?s_BadName ?t_BadName ?x_BadWish ?k_BadWish ?s_BadWish ?t_BadWish ?x_BadNumber ?k_BadNumber ?s_BadNumber ?t_BadNumber ?x_Known ?k_Known ?s_Known ?t_Known ?x_Stranger ?k_Stranger ?s_Stranger ?t_Stranger ?x_Outside ?k_Outside ?s_Outside ?t_Outside ?x_Reads ?k_Reads ?s_Reads ?t_Reads ?x_Writes ?k_Writes ?s_Writes ?t_Writes ?x_Asked ?k_Asked ?s_Asked ?t_Asked ?x_BadJournal ?k_BadJournal ?s_BadJournal ?t_BadJournal ?e_BadName_RoomError ?e_BadWish_RoomError ?e_BadNumber_RoomError ?e_Known_RoomError ?e_Stranger_RoomError ?e_Outside_RoomError ?e_Reads_RoomError ?e_Writes_RoomError ?e_Asked_RoomError ?e_BadJournal_RoomError ?e_BadNumber_BadNumber ?ecg_BadJournal ?eck_BadJournal ?ecs_BadJournal ?ecd_BadJournal ?eca_BadJournal ?ecn_BadJournal ?ect_BadJournal ?ecm_BadJournal ?i_BadJournal_BadName ?i_BadJournal_BadWish ?i_BadJournal_BadNumber ?i_BadJournal_Known ?i_BadJournal_Stranger ?i_BadJournal_Outside ?i_BadJournal_Inside ?i_BadJournal_Reads ?i_BadJournal_Writes ?i_BadJournal_Asked ?i_BadJournal_BadText ?i_BadJournal_BadJournal ?i_BadJournal_ValueError ?z_ValueError ?z_bool ?z_dict ?z_enumerate ?z_int ?z_isinstance ?z_len ?z_list ?z_max ?z_range ?z_str ?z_tuple ?v_LONGEST ?v_MOST ?v_SIGNS ?aCRoom ?pg ?hd ?po ?sa ?mk ?kc ?no_alone ?no_asking ?no_patience ?no_reading ?no_rows ?no_seats ?no_waiting ?a_l_cell_at ?l_l_cell_at ?c_l_cell_at ?kf_l_cell_at ?a_l_number_by ?l_l_number_by ?c_l_number_by ?kf_l_number_by ?a_l_seats ?l_l_seats ?c_l_seats ?kf_l_seats ?a_l_patience ?l_l_patience ?c_l_patience ?kf_l_patience ?a_l_people ?l_l_people ?c_l_people ?kf_l_people ?a_l_names ?l_l_names ?c_l_names ?kf_l_names ?a_l_wish_by ?l_l_wish_by ?c_l_wish_by ?kf_l_wish_by ?a_l_crowd ?l_l_crowd ?c_l_crowd ?kf_l_crowd ?a_l_fresh ?l_l_fresh ?c_l_fresh ?kf_l_fresh ?a_l_deed_by ?l_l_deed_by ?c_l_deed_by ?kf_l_deed_by ?a_l_inside ?l_l_inside ?c_l_inside ?kf_l_inside ?a_l_known ?l_l_known ?c_l_known ?kf_l_known ?a_l_refused ?l_l_refused ?c_l_refused ?kf_l_refused ?a_l_deed_done ?l_l_deed_done ?c_l_deed_done ?kf_l_deed_done ?a_l_row ?l_l_row ?c_l_row ?kf_l_row ?a_l_next ?l_l_next ?c_l_next ?kf_l_next ?a_l_pair ?l_l_pair ?c_l_pair ?kf_l_pair ?a_l_began ?l_l_began ?c_l_began ?kf_l_began ?a_l_journal ?l_l_journal ?c_l_journal ?kf_l_journal ?a_l_misspelt ?l_l_misspelt ?c_l_misspelt ?kf_l_misspelt ?a_l_other_row ?l_l_other_row ?c_l_other_row ?kf_l_other_row ?a_l_spoilt ?l_l_spoilt ?c_l_spoilt ?kf_l_spoilt ?a_is_row ?l_is_row ?c_is_row ?kf_is_row ?a_is_name ?l_is_name ?c_is_name ?kf_is_name ?a_is_wish ?l_is_wish ?c_is_wish ?kf_is_wish ?a_room_is_waiting ?i_room_is_waiting ?l_room_is_waiting ?c_room_is_waiting ?kf_room_is_waiting ?a_room_is_inside ?i_room_is_inside ?l_room_is_inside ?c_room_is_inside ?kf_room_is_inside ?a_can_begin ?l_can_begin ?c_can_begin ?kf_can_begin ?a_first_reader ?l_first_reader ?c_first_reader ?kf_first_reader ?a_next_place ?l_next_place ?c_next_place ?kf_next_place ?a_room_begun ?i_room_begun ?l_room_begun ?c_room_begun ?kf_room_begun ?a_room_settled ?i_room_settled ?l_room_settled ?c_room_settled ?kf_room_settled ?a_room_come ?i_room_come ?l_room_come ?c_room_come ?kf_room_come ?a_room_look ?i_room_look ?l_room_look ?c_room_look ?kf_room_look ?a_room_leave ?i_room_leave ?l_room_leave ?c_room_leave ?kf_room_leave ?a_room_ask ?i_room_ask ?l_room_ask ?c_room_ask ?kf_room_ask ?a_room_ease ?i_room_ease ?l_room_ease ?c_room_ease ?kf_room_ease ?a_redone ?l_redone ?c_redone ?kf_redone ?a_gone_through ?l_gone_through ?c_gone_through ?kf_gone_through ?a_is_number ?l_is_number ?c_is_number ?kf_is_number ?a_room_init ?i_room_init ?l_room_init ?c_room_init ?kf_room_init ?a_judged ?l_judged ?c_judged ?kf_judged ?a_room_of ?l_room_of ?c_room_of ?kf_room_of ?a_l_refuses ?l_l_refuses ?c_l_refuses ?kf_l_refuses ?a_l_name ?l_l_name ?c_l_name ?kf_l_name ?a_l_formed ?l_l_formed ?c_l_formed ?kf_l_formed ?a_l_gone ?l_l_gone ?c_l_gone ?kf_l_gone ?a_l_whole ?l_l_whole ?c_l_whole ?kf_l_whole ?a_l_told ?l_l_told ?c_l_told ?kf_l_told ?a_l_refused_rows ?l_l_refused_rows ?c_l_refused_rows ?kf_l_refused_rows ?a_law ?l_law ?c_law ?kf_law
    (case aCRoomError => first | k_is | k_exc | kts_exm | kit_is)
    (case aCBadName => first | k_is | k_exc | kts_exm | kit_is)
    (case aCBadWish => first | k_is | k_exc | kts_exm | kit_is)
    (case aCBadNumber => first | k_is | k_exc | kts_exm | kit_is)
    (case aCKnown => first | k_is | k_exc | kts_exm | kit_is)
    (case aCStranger => first | k_is | k_exc | kts_exm | kit_is)
    (case aCOutside => first | k_is | k_exc | kts_exm | kit_is)
    (case aCInside => first | k_is | k_exc | kts_exm | kit_is)
    (case aCReads => first | k_is | k_exc | kts_exm | kit_is)
    (case aCWrites => first | k_is | k_exc | kts_exm | kit_is)
    (case aCAsked => first | k_is | k_exc | kts_exm | kit_is)
    (case aCBadText => first | k_is | k_exc | kts_exm | kit_is)
    (case aCBadJournal => first | k_is | k_exc | kts_exm | kit_is)
    (case x_BadName => first | k_is | k_exc | kts_exm | kit_is)
    (case k_BadName => first | k_is | k_exc | kts_exm | kit_is)
    (case s_BadName => first | k_is | k_exc | kts_exm | kit_is)
    (case t_BadName => first | k_is | k_exc | kts_exm | kit_is)
    (case x_BadWish => first | k_is | k_exc | kts_exm | kit_is)
    (case k_BadWish => first | k_is | k_exc | kts_exm | kit_is)
    (case s_BadWish => first | k_is | k_exc | kts_exm | kit_is)
    (case t_BadWish => first | k_is | k_exc | kts_exm | kit_is)
    (case x_BadNumber => first | k_is | k_exc | kts_exm | kit_is)
    (case k_BadNumber => first | k_is | k_exc | kts_exm | kit_is)
    (case s_BadNumber => first | k_is | k_exc | kts_exm | kit_is)
    (case t_BadNumber => first | k_is | k_exc | kts_exm | kit_is)
    (case x_Known => first | k_is | k_exc | kts_exm | kit_is)
    (case k_Known => first | k_is | k_exc | kts_exm | kit_is)
    (case s_Known => first | k_is | k_exc | kts_exm | kit_is)
    (case t_Known => first | k_is | k_exc | kts_exm | kit_is)
    (case x_Stranger => first | k_is | k_exc | kts_exm | kit_is)
    (case k_Stranger => first | k_is | k_exc | kts_exm | kit_is)
    (case s_Stranger => first | k_is | k_exc | kts_exm | kit_is)
    (case t_Stranger => first | k_is | k_exc | kts_exm | kit_is)
    (case x_Outside => first | k_is | k_exc | kts_exm | kit_is)
    (case k_Outside => first | k_is | k_exc | kts_exm | kit_is)
    (case s_Outside => first | k_is | k_exc | kts_exm | kit_is)
    (case t_Outside => first | k_is | k_exc | kts_exm | kit_is)
    (case x_Reads => first | k_is | k_exc | kts_exm | kit_is)
    (case k_Reads => first | k_is | k_exc | kts_exm | kit_is)
    (case s_Reads => first | k_is | k_exc | kts_exm | kit_is)
    (case t_Reads => first | k_is | k_exc | kts_exm | kit_is)
    (case x_Writes => first | k_is | k_exc | kts_exm | kit_is)
    (case k_Writes => first | k_is | k_exc | kts_exm | kit_is)
    (case s_Writes => first | k_is | k_exc | kts_exm | kit_is)
    (case t_Writes => first | k_is | k_exc | kts_exm | kit_is)
    (case x_Asked => first | k_is | k_exc | kts_exm | kit_is)
    (case k_Asked => first | k_is | k_exc | kts_exm | kit_is)
    (case s_Asked => first | k_is | k_exc | kts_exm | kit_is)
    (case t_Asked => first | k_is | k_exc | kts_exm | kit_is)
    (case x_BadJournal => first | k_is | k_exc | kts_exm | kit_is)
    (case k_BadJournal => first | k_is | k_exc | kts_exm | kit_is)
    (case s_BadJournal => first | k_is | k_exc | kts_exm | kit_is)
    (case t_BadJournal => first | k_is | k_exc | kts_exm | kit_is)
    (case e_BadName_RoomError => first | k_is | k_exc | kts_exm | kit_is)
    (case e_BadWish_RoomError => first | k_is | k_exc | kts_exm | kit_is)
    (case e_BadNumber_RoomError => first | k_is | k_exc | kts_exm | kit_is)
    (case e_Known_RoomError => first | k_is | k_exc | kts_exm | kit_is)
    (case e_Stranger_RoomError => first | k_is | k_exc | kts_exm | kit_is)
    (case e_Outside_RoomError => first | k_is | k_exc | kts_exm | kit_is)
    (case e_Reads_RoomError => first | k_is | k_exc | kts_exm | kit_is)
    (case e_Writes_RoomError => first | k_is | k_exc | kts_exm | kit_is)
    (case e_Asked_RoomError => first | k_is | k_exc | kts_exm | kit_is)
    (case e_BadJournal_RoomError => first | k_is | k_exc | kts_exm | kit_is)
    (case e_BadNumber_BadNumber => first | k_is | k_exc | kts_exm | kit_is)
    (case ecg_BadJournal => first | k_is | k_exc | kts_exm | kit_is)
    (case eck_BadJournal => first | k_is | k_exc | kts_exm | kit_is)
    (case ecs_BadJournal => first | k_is | k_exc | kts_exm | kit_is)
    (case ecd_BadJournal => first | k_is | k_exc | kts_exm | kit_is)
    (case eca_BadJournal => first | k_is | k_exc | kts_exm | kit_is)
    (case ecn_BadJournal => first | k_is | k_exc | kts_exm | kit_is)
    (case ect_BadJournal => first | k_is | k_exc | kts_exm | kit_is)
    (case ecm_BadJournal => first | k_is | k_exc | kts_exm | kit_is)
    (case i_BadJournal_BadName => first | k_is | k_exc | kts_exm | kit_is)
    (case i_BadJournal_BadWish => first | k_is | k_exc | kts_exm | kit_is)
    (case i_BadJournal_BadNumber => first | k_is | k_exc | kts_exm | kit_is)
    (case i_BadJournal_Known => first | k_is | k_exc | kts_exm | kit_is)
    (case i_BadJournal_Stranger => first | k_is | k_exc | kts_exm | kit_is)
    (case i_BadJournal_Outside => first | k_is | k_exc | kts_exm | kit_is)
    (case i_BadJournal_Inside => first | k_is | k_exc | kts_exm | kit_is)
    (case i_BadJournal_Reads => first | k_is | k_exc | kts_exm | kit_is)
    (case i_BadJournal_Writes => first | k_is | k_exc | kts_exm | kit_is)
    (case i_BadJournal_Asked => first | k_is | k_exc | kts_exm | kit_is)
    (case i_BadJournal_BadText => first | k_is | k_exc | kts_exm | kit_is)
    (case i_BadJournal_BadJournal => first | k_is | k_exc | kts_exm | kit_is)
    (case i_BadJournal_ValueError => first | k_is | k_exc | kts_exm | kit_is)
    (case z_ValueError => first | k_is | k_exc | kts_exm | kit_is)
    (case z_bool => first | k_is | k_exc | kts_exm | kit_is)
    (case z_dict => first | k_is | k_exc | kts_exm | kit_is)
    (case z_enumerate => first | k_is | k_exc | kts_exm | kit_is)
    (case z_int => first | k_is | k_exc | kts_exm | kit_is)
    (case z_isinstance => first | k_is | k_exc | kts_exm | kit_is)
    (case z_len => first | k_is | k_exc | kts_exm | kit_is)
    (case z_list => first | k_is | k_exc | kts_exm | kit_is)
    (case z_max => first | k_is | k_exc | kts_exm | kit_is)
    (case z_range => first | k_is | k_exc | kts_exm | kit_is)
    (case z_str => first | k_is | k_exc | kts_exm | kit_is)
    (case z_tuple => first | k_is | k_exc | kts_exm | kit_is)
    (case v_LONGEST => first | k_is | k_exc | kts_exm | kit_is)
    (case v_MOST => first | k_is | k_exc | kts_exm | kit_is)
    (case v_SIGNS => first | k_is | k_exc | kts_exm | kit_is)
    (case aCRoom => first | k_is | k_exc | kts_exm | kit_is)
    (case pg => first | k_is | k_exc | kts_exm | kit_is)
    (case hd => first | k_is | k_exc | kts_exm | kit_is)
    (case po => first | k_is | k_exc | kts_exm | kit_is)
    (case sa => first | k_is | k_exc | kts_exm | kit_is)
    (case mk => first | k_is | k_exc | kts_exm | kit_is)
    (case kc => first | k_is | k_exc | kts_exm | kit_is)
    (case no_alone => first | k_is | k_exc | kts_exm | kit_is)
    (case no_asking => first | k_is | k_exc | kts_exm | kit_is)
    (case no_patience => first | k_is | k_exc | kts_exm | kit_is)
    (case no_reading => first | k_is | k_exc | kts_exm | kit_is)
    (case no_rows => first | k_is | k_exc | kts_exm | kit_is)
    (case no_seats => first | k_is | k_exc | kts_exm | kit_is)
    (case no_waiting => first | k_is | k_exc | kts_exm | kit_is)
    (case a_l_cell_at => first | k_is | k_exc | kts_exm | kit_is)
    (case l_l_cell_at => first | k_is | k_exc | kts_exm | kit_is)
    (case c_l_cell_at => first | k_is | k_exc | kts_exm | kit_is)
    (case kf_l_cell_at => first | k_is | k_exc | kts_exm | kit_is)
    (case a_l_number_by => first | k_is | k_exc | kts_exm | kit_is)
    (case l_l_number_by => first | k_is | k_exc | kts_exm | kit_is)
    (case c_l_number_by => first | k_is | k_exc | kts_exm | kit_is)
    (case kf_l_number_by => first | k_is | k_exc | kts_exm | kit_is)
    (case a_l_seats => first | k_is | k_exc | kts_exm | kit_is)
    (case l_l_seats => first | k_is | k_exc | kts_exm | kit_is)
    (case c_l_seats => first | k_is | k_exc | kts_exm | kit_is)
    (case kf_l_seats => first | k_is | k_exc | kts_exm | kit_is)
    (case a_l_patience => first | k_is | k_exc | kts_exm | kit_is)
    (case l_l_patience => first | k_is | k_exc | kts_exm | kit_is)
    (case c_l_patience => first | k_is | k_exc | kts_exm | kit_is)
    (case kf_l_patience => first | k_is | k_exc | kts_exm | kit_is)
    (case a_l_people => first | k_is | k_exc | kts_exm | kit_is)
    (case l_l_people => first | k_is | k_exc | kts_exm | kit_is)
    (case c_l_people => first | k_is | k_exc | kts_exm | kit_is)
    (case kf_l_people => first | k_is | k_exc | kts_exm | kit_is)
    (case a_l_names => first | k_is | k_exc | kts_exm | kit_is)
    (case l_l_names => first | k_is | k_exc | kts_exm | kit_is)
    (case c_l_names => first | k_is | k_exc | kts_exm | kit_is)
    (case kf_l_names => first | k_is | k_exc | kts_exm | kit_is)
    (case a_l_wish_by => first | k_is | k_exc | kts_exm | kit_is)
    (case l_l_wish_by => first | k_is | k_exc | kts_exm | kit_is)
    (case c_l_wish_by => first | k_is | k_exc | kts_exm | kit_is)
    (case kf_l_wish_by => first | k_is | k_exc | kts_exm | kit_is)
    (case a_l_crowd => first | k_is | k_exc | kts_exm | kit_is)
    (case l_l_crowd => first | k_is | k_exc | kts_exm | kit_is)
    (case c_l_crowd => first | k_is | k_exc | kts_exm | kit_is)
    (case kf_l_crowd => first | k_is | k_exc | kts_exm | kit_is)
    (case a_l_fresh => first | k_is | k_exc | kts_exm | kit_is)
    (case l_l_fresh => first | k_is | k_exc | kts_exm | kit_is)
    (case c_l_fresh => first | k_is | k_exc | kts_exm | kit_is)
    (case kf_l_fresh => first | k_is | k_exc | kts_exm | kit_is)
    (case a_l_deed_by => first | k_is | k_exc | kts_exm | kit_is)
    (case l_l_deed_by => first | k_is | k_exc | kts_exm | kit_is)
    (case c_l_deed_by => first | k_is | k_exc | kts_exm | kit_is)
    (case kf_l_deed_by => first | k_is | k_exc | kts_exm | kit_is)
    (case a_l_inside => first | k_is | k_exc | kts_exm | kit_is)
    (case l_l_inside => first | k_is | k_exc | kts_exm | kit_is)
    (case c_l_inside => first | k_is | k_exc | kts_exm | kit_is)
    (case kf_l_inside => first | k_is | k_exc | kts_exm | kit_is)
    (case a_l_known => first | k_is | k_exc | kts_exm | kit_is)
    (case l_l_known => first | k_is | k_exc | kts_exm | kit_is)
    (case c_l_known => first | k_is | k_exc | kts_exm | kit_is)
    (case kf_l_known => first | k_is | k_exc | kts_exm | kit_is)
    (case a_l_refused => first | k_is | k_exc | kts_exm | kit_is)
    (case l_l_refused => first | k_is | k_exc | kts_exm | kit_is)
    (case c_l_refused => first | k_is | k_exc | kts_exm | kit_is)
    (case kf_l_refused => first | k_is | k_exc | kts_exm | kit_is)
    (case a_l_deed_done => first | k_is | k_exc | kts_exm | kit_is)
    (case l_l_deed_done => first | k_is | k_exc | kts_exm | kit_is)
    (case c_l_deed_done => first | k_is | k_exc | kts_exm | kit_is)
    (case kf_l_deed_done => first | k_is | k_exc | kts_exm | kit_is)
    (case a_l_row => first | k_is | k_exc | kts_exm | kit_is)
    (case l_l_row => first | k_is | k_exc | kts_exm | kit_is)
    (case c_l_row => first | k_is | k_exc | kts_exm | kit_is)
    (case kf_l_row => first | k_is | k_exc | kts_exm | kit_is)
    (case a_l_next => first | k_is | k_exc | kts_exm | kit_is)
    (case l_l_next => first | k_is | k_exc | kts_exm | kit_is)
    (case c_l_next => first | k_is | k_exc | kts_exm | kit_is)
    (case kf_l_next => first | k_is | k_exc | kts_exm | kit_is)
    (case a_l_pair => first | k_is | k_exc | kts_exm | kit_is)
    (case l_l_pair => first | k_is | k_exc | kts_exm | kit_is)
    (case c_l_pair => first | k_is | k_exc | kts_exm | kit_is)
    (case kf_l_pair => first | k_is | k_exc | kts_exm | kit_is)
    (case a_l_began => first | k_is | k_exc | kts_exm | kit_is)
    (case l_l_began => first | k_is | k_exc | kts_exm | kit_is)
    (case c_l_began => first | k_is | k_exc | kts_exm | kit_is)
    (case kf_l_began => first | k_is | k_exc | kts_exm | kit_is)
    (case a_l_journal => first | k_is | k_exc | kts_exm | kit_is)
    (case l_l_journal => first | k_is | k_exc | kts_exm | kit_is)
    (case c_l_journal => first | k_is | k_exc | kts_exm | kit_is)
    (case kf_l_journal => first | k_is | k_exc | kts_exm | kit_is)
    (case a_l_misspelt => first | k_is | k_exc | kts_exm | kit_is)
    (case l_l_misspelt => first | k_is | k_exc | kts_exm | kit_is)
    (case c_l_misspelt => first | k_is | k_exc | kts_exm | kit_is)
    (case kf_l_misspelt => first | k_is | k_exc | kts_exm | kit_is)
    (case a_l_other_row => first | k_is | k_exc | kts_exm | kit_is)
    (case l_l_other_row => first | k_is | k_exc | kts_exm | kit_is)
    (case c_l_other_row => first | k_is | k_exc | kts_exm | kit_is)
    (case kf_l_other_row => first | k_is | k_exc | kts_exm | kit_is)
    (case a_l_spoilt => first | k_is | k_exc | kts_exm | kit_is)
    (case l_l_spoilt => first | k_is | k_exc | kts_exm | kit_is)
    (case c_l_spoilt => first | k_is | k_exc | kts_exm | kit_is)
    (case kf_l_spoilt => first | k_is | k_exc | kts_exm | kit_is)
    (case a_is_row => first | k_is | k_exc | kts_exm | kit_is)
    (case l_is_row => first | k_is | k_exc | kts_exm | kit_is)
    (case c_is_row => first | k_is | k_exc | kts_exm | kit_is)
    (case kf_is_row => first | k_is | k_exc | kts_exm | kit_is)
    (case a_is_name => first | k_is | k_exc | kts_exm | kit_is)
    (case l_is_name => first | k_is | k_exc | kts_exm | kit_is)
    (case c_is_name => first | k_is | k_exc | kts_exm | kit_is)
    (case kf_is_name => first | k_is | k_exc | kts_exm | kit_is)
    (case a_is_wish => first | k_is | k_exc | kts_exm | kit_is)
    (case l_is_wish => first | k_is | k_exc | kts_exm | kit_is)
    (case c_is_wish => first | k_is | k_exc | kts_exm | kit_is)
    (case kf_is_wish => first | k_is | k_exc | kts_exm | kit_is)
    (case a_room_is_waiting => first | k_is | k_exc | kts_exm | kit_is)
    (case i_room_is_waiting => first | k_is | k_exc | kts_exm | kit_is)
    (case l_room_is_waiting => first | k_is | k_exc | kts_exm | kit_is)
    (case c_room_is_waiting => first | k_is | k_exc | kts_exm | kit_is)
    (case kf_room_is_waiting => first | k_is | k_exc | kts_exm | kit_is)
    (case a_room_is_inside => first | k_is | k_exc | kts_exm | kit_is)
    (case i_room_is_inside => first | k_is | k_exc | kts_exm | kit_is)
    (case l_room_is_inside => first | k_is | k_exc | kts_exm | kit_is)
    (case c_room_is_inside => first | k_is | k_exc | kts_exm | kit_is)
    (case kf_room_is_inside => first | k_is | k_exc | kts_exm | kit_is)
    (case a_can_begin => first | k_is | k_exc | kts_exm | kit_is)
    (case l_can_begin => first | k_is | k_exc | kts_exm | kit_is)
    (case c_can_begin => first | k_is | k_exc | kts_exm | kit_is)
    (case kf_can_begin => first | k_is | k_exc | kts_exm | kit_is)
    (case a_first_reader => first | k_is | k_exc | kts_exm | kit_is)
    (case l_first_reader => first | k_is | k_exc | kts_exm | kit_is)
    (case c_first_reader => first | k_is | k_exc | kts_exm | kit_is)
    (case kf_first_reader => first | k_is | k_exc | kts_exm | kit_is)
    (case a_next_place => first | k_is | k_exc | kts_exm | kit_is)
    (case l_next_place => first | k_is | k_exc | kts_exm | kit_is)
    (case c_next_place => first | k_is | k_exc | kts_exm | kit_is)
    (case kf_next_place => first | k_is | k_exc | kts_exm | kit_is)
    (case a_room_begun => first | k_is | k_exc | kts_exm | kit_is)
    (case i_room_begun => first | k_is | k_exc | kts_exm | kit_is)
    (case l_room_begun => first | k_is | k_exc | kts_exm | kit_is)
    (case c_room_begun => first | k_is | k_exc | kts_exm | kit_is)
    (case kf_room_begun => first | k_is | k_exc | kts_exm | kit_is)
    (case a_room_settled => first | k_is | k_exc | kts_exm | kit_is)
    (case i_room_settled => first | k_is | k_exc | kts_exm | kit_is)
    (case l_room_settled => first | k_is | k_exc | kts_exm | kit_is)
    (case c_room_settled => first | k_is | k_exc | kts_exm | kit_is)
    (case kf_room_settled => first | k_is | k_exc | kts_exm | kit_is)
    (case a_room_come => first | k_is | k_exc | kts_exm | kit_is)
    (case i_room_come => first | k_is | k_exc | kts_exm | kit_is)
    (case l_room_come => first | k_is | k_exc | kts_exm | kit_is)
    (case c_room_come => first | k_is | k_exc | kts_exm | kit_is)
    (case kf_room_come => first | k_is | k_exc | kts_exm | kit_is)
    (case a_room_look => first | k_is | k_exc | kts_exm | kit_is)
    (case i_room_look => first | k_is | k_exc | kts_exm | kit_is)
    (case l_room_look => first | k_is | k_exc | kts_exm | kit_is)
    (case c_room_look => first | k_is | k_exc | kts_exm | kit_is)
    (case kf_room_look => first | k_is | k_exc | kts_exm | kit_is)
    (case a_room_leave => first | k_is | k_exc | kts_exm | kit_is)
    (case i_room_leave => first | k_is | k_exc | kts_exm | kit_is)
    (case l_room_leave => first | k_is | k_exc | kts_exm | kit_is)
    (case c_room_leave => first | k_is | k_exc | kts_exm | kit_is)
    (case kf_room_leave => first | k_is | k_exc | kts_exm | kit_is)
    (case a_room_ask => first | k_is | k_exc | kts_exm | kit_is)
    (case i_room_ask => first | k_is | k_exc | kts_exm | kit_is)
    (case l_room_ask => first | k_is | k_exc | kts_exm | kit_is)
    (case c_room_ask => first | k_is | k_exc | kts_exm | kit_is)
    (case kf_room_ask => first | k_is | k_exc | kts_exm | kit_is)
    (case a_room_ease => first | k_is | k_exc | kts_exm | kit_is)
    (case i_room_ease => first | k_is | k_exc | kts_exm | kit_is)
    (case l_room_ease => first | k_is | k_exc | kts_exm | kit_is)
    (case c_room_ease => first | k_is | k_exc | kts_exm | kit_is)
    (case kf_room_ease => first | k_is | k_exc | kts_exm | kit_is)
    (case a_redone => first | k_is | k_exc | kts_exm | kit_is)
    (case l_redone => first | k_is | k_exc | kts_exm | kit_is)
    (case c_redone => first | k_is | k_exc | kts_exm | kit_is)
    (case kf_redone => first | k_is | k_exc | kts_exm | kit_is)
    (case a_gone_through => first | k_is | k_exc | kts_exm | kit_is)
    (case l_gone_through => first | k_is | k_exc | kts_exm | kit_is)
    (case c_gone_through => first | k_is | k_exc | kts_exm | kit_is)
    (case kf_gone_through => first | k_is | k_exc | kts_exm | kit_is)
    (case a_is_number => first | k_is | k_exc | kts_exm | kit_is)
    (case l_is_number => first | k_is | k_exc | kts_exm | kit_is)
    (case c_is_number => first | k_is | k_exc | kts_exm | kit_is)
    (case kf_is_number => first | k_is | k_exc | kts_exm | kit_is)
    (case a_room_init => first | k_is | k_exc | kts_exm | kit_is)
    (case i_room_init => first | k_is | k_exc | kts_exm | kit_is)
    (case l_room_init => first | k_is | k_exc | kts_exm | kit_is)
    (case c_room_init => first | k_is | k_exc | kts_exm | kit_is)
    (case kf_room_init => first | k_is | k_exc | kts_exm | kit_is)
    (case a_judged => first | k_is | k_exc | kts_exm | kit_is)
    (case l_judged => first | k_is | k_exc | kts_exm | kit_is)
    (case c_judged => first | k_is | k_exc | kts_exm | kit_is)
    (case kf_judged => first | k_is | k_exc | kts_exm | kit_is)
    (case a_room_of => first | k_is | k_exc | kts_exm | kit_is)
    (case l_room_of => first | k_is | k_exc | kts_exm | kit_is)
    (case c_room_of => first | k_is | k_exc | kts_exm | kit_is)
    (case kf_room_of => first | k_is | k_exc | kts_exm | kit_is)
    (case a_l_refuses => first | k_is | k_exc | kts_exm | kit_is)
    (case l_l_refuses => first | k_is | k_exc | kts_exm | kit_is)
    (case c_l_refuses => first | k_is | k_exc | kts_exm | kit_is)
    (case kf_l_refuses => first | k_is | k_exc | kts_exm | kit_is)
    (case a_l_name => first | k_is | k_exc | kts_exm | kit_is)
    (case l_l_name => first | k_is | k_exc | kts_exm | kit_is)
    (case c_l_name => first | k_is | k_exc | kts_exm | kit_is)
    (case kf_l_name => first | k_is | k_exc | kts_exm | kit_is)
    (case a_l_formed => first | k_is | k_exc | kts_exm | kit_is)
    (case l_l_formed => first | k_is | k_exc | kts_exm | kit_is)
    (case c_l_formed => first | k_is | k_exc | kts_exm | kit_is)
    (case kf_l_formed => first | k_is | k_exc | kts_exm | kit_is)
    (case a_l_gone => first | k_is | k_exc | kts_exm | kit_is)
    (case l_l_gone => first | k_is | k_exc | kts_exm | kit_is)
    (case c_l_gone => first | k_is | k_exc | kts_exm | kit_is)
    (case kf_l_gone => first | k_is | k_exc | kts_exm | kit_is)
    (case a_l_whole => first | k_is | k_exc | kts_exm | kit_is)
    (case l_l_whole => first | k_is | k_exc | kts_exm | kit_is)
    (case c_l_whole => first | k_is | k_exc | kts_exm | kit_is)
    (case kf_l_whole => first | k_is | k_exc | kts_exm | kit_is)
    (case a_l_told => first | k_is | k_exc | kts_exm | kit_is)
    (case l_l_told => first | k_is | k_exc | kts_exm | kit_is)
    (case c_l_told => first | k_is | k_exc | kts_exm | kit_is)
    (case kf_l_told => first | k_is | k_exc | kts_exm | kit_is)
    (case a_l_refused_rows => first | k_is | k_exc | kts_exm | kit_is)
    (case l_l_refused_rows => first | k_is | k_exc | kts_exm | kit_is)
    (case c_l_refused_rows => first | k_is | k_exc | kts_exm | kit_is)
    (case kf_l_refused_rows => first | k_is | k_exc | kts_exm | kit_is)
    (case a_law => first | k_is | k_exc | kts_exm | kit_is)
    (case l_law => first | k_is | k_exc | kts_exm | kit_is)
    (case c_law => first | k_is | k_exc | kts_exm | kit_is)
    (case kf_law => first | k_is | k_exc | kts_exm | kit_is)

