import PyProof.Rows.All
import Wide.All
import OpenK.AllK
import Wide.FinOn
import HandS.ForMost
import HandS.Exc
import HandS.TryOnly
import HandS.TryMany
import HandS.ExcOwn
import HandS.WordsExc
import HandS.IsInst
import HandS.Flow
import HandS.TupAny
import HandS.More
import PySem.Challenge.RW_readwriteroom_k11_told_and_read
set_option Elab.async false
set_option linter.all false
set_option maxRecDepth 100000
set_option maxHeartbeats 4000000
/-! The data layer: readings of a def over plain data, once for all defs -/
namespace DL
open PySem L2

/-! ### data -/
inductive D where
  | non | bl (b : Bool) | int (i : Int) | str (s : Str)
  | lst (xs : List D) | tup (xs : List D) | dic (kvs : List (Str × D)) | scr (ns : List Int) | obj (a : Addr) | ty (n : String)

/-- sound signs, a length that fits -/
def strOk (s : Str) : Bool := PyData.strOk s && decide (s.length ≤ 16777216)
theorem strOk_snd {s : Str} (h : strOk s = true) : PyData.strOk s = true := (Bool.and_eq_true_iff.mp h).1
theorem strOk_len {s : Str} (h : strOk s = true) : s.length ≤ sizeLine := by
  have := of_decide_eq_true (Bool.and_eq_true_iff.mp h).2
  rw [sizeLine_eq]; exact this
theorem strOk_mk {s : Str} (h : PyData.strOk s = true) (k : s.length ≤ sizeLine) : strOk s = true := by
  rw [sizeLine_eq] at k
  exact Bool.and_eq_true_iff.mpr ⟨h, decide_eq_true k⟩

mutual
inductive Rep (K : PySem.W.Frag) (G : Hp) : V → D → Prop
  | non : Rep K G .non .non
  | bl (b : Bool) : Rep K G (.bl b) (.bl b)
  | int (i : Int) : Rep K G (.int i) (.int i)
  | str (s : Str) : strOk s = true → Rep K G (.str s) (.str s)
  | lst {a : Addr} {vs : List V} {ds : List D} : G a = some (.lst vs) → RepL K G vs ds → ds.length ≤ sizeLine → Rep K G (.ref a) (.lst ds)
  | tup {a : Addr} {vs : List V} {ds : List D} : G a = some (.tup vs) → RepL K G vs ds → ds.length ≤ sizeLine → Rep K G (.ref a) (.tup ds)
  | dic {a : Addr} {kv : List (Key × V)} {ds : List (Str × D)} : G a = some (.dK kv) → kv.map (·.1) = ds.map (fun p => Sum.inr p.1) → RepL K G (kv.map (·.2)) (ds.map (·.2)) → Rep K G (.ref a) (.dic ds)
  | scr {a : Addr} {ns : List Int} : SqL K G a (ns.map V.int) → Rep K G (.ref a) (.scr ns)
  | obj (a : Addr) : Rep K G (.ref a) (.obj a)
  | ty (n : String) : Rep K G (.ty n) (.ty n)
inductive RepL (K : PySem.W.Frag) (G : Hp) : List V → List D → Prop
  | nil : RepL K G [] []
  | cons {v : V} {vs : List V} {d : D} {ds : List D} : Rep K G v d → RepL K G vs ds → RepL K G (v :: vs) (d :: ds)
end

section
variable {K : PySem.W.Frag} {G G' : Hp}
mutual
theorem Rep.mono (e : Same G G') : ∀ {v : V} {d : D}, Rep K G v d → Rep K G' v d
  | _, _, .non => .non
  | _, _, .bl b => .bl b
  | _, _, .int i => .int i
  | _, _, .str s h => .str s h
  | _, _, .lst h r z => .lst (e _ _ h) (RepL.mono e r) z
  | _, _, .tup h r z => .tup (e _ _ h) (RepL.mono e r) z
  | _, _, .dic h k r => .dic (e _ _ h) k (RepL.mono e r)
  | _, _, .scr h => .scr (e.seq h)
  | _, _, .obj a => .obj a
  | _, _, .ty n => .ty n
theorem RepL.mono (e : Same G G') : ∀ {vs : List V} {ds : List D}, RepL K G vs ds → RepL K G' vs ds
  | _, _, .nil => .nil
  | _, _, .cons h t => .cons (Rep.mono e h) (RepL.mono e t)
end
theorem RepL.len : ∀ {vs : List V} {ds : List D}, RepL K G vs ds → vs.length = ds.length
  | _, _, .nil => rfl
  | _, _, .cons _ t => by rw [List.length_cons, List.length_cons, t.len]
theorem RepL.get : ∀ {vs : List V} {ds : List D} {i : Nat} {v : V}, RepL K G vs ds → vs[i]? = some v → ∃ d, ds[i]? = some d ∧ Rep K G v d
  | _, _, _, _, .nil, e => by simp at e
  | _, _, 0, _, .cons r _, e => by simp at e; subst e; exact ⟨_, rfl, r⟩
  | _, _, i + 1, v, .cons _ t, e => by
    obtain ⟨u, h1, h2⟩ := RepL.get (i := i) (v := v) t (by simpa using e)
    exact ⟨u, by simpa using h1, h2⟩
theorem RepL.at : ∀ {vs : List V} {ds : List D} {i : Nat} {d : D}, RepL K G vs ds → ds[i]? = some d → ∃ v, vs[i]? = some v ∧ Rep K G v d
  | _, _, _, _, .nil, e => by simp at e
  | _, _, 0, _, .cons r _, e => by simp at e; subst e; exact ⟨_, rfl, r⟩
  | _, _, i + 1, d, .cons _ t, e => by
    obtain ⟨u, h1, h2⟩ := RepL.at (i := i) (d := d) t (by simpa using e)
    exact ⟨u, by simpa using h1, h2⟩
theorem RepL.append : ∀ {vs ws : List V} {ds es : List D}, RepL K G vs ds → RepL K G ws es → RepL K G (vs ++ ws) (ds ++ es)
  | _, _, _, _, .nil, s => s
  | _, _, _, _, .cons r t, s => .cons r (RepL.append t s)
theorem RepL.take : ∀ {vs : List V} {ds : List D} (n : Nat), RepL K G vs ds → RepL K G (vs.take n) (ds.take n)
  | _, _, 0, _ => .nil
  | _, _, _ + 1, .nil => .nil
  | _, _, n + 1, .cons r t => .cons r (RepL.take n t)
theorem RepL.drop : ∀ {vs : List V} {ds : List D} (n : Nat), RepL K G vs ds → RepL K G (vs.drop n) (ds.drop n)
  | _, _, 0, r => r
  | _, _, _ + 1, .nil => .nil
  | _, _, n + 1, .cons _ t => RepL.drop n t
theorem RepL.erase : ∀ {vs : List V} {ds : List D} (n : Nat), RepL K G vs ds → RepL K G (vs.eraseIdx n) (ds.eraseIdx n)
  | _, _, _, .nil => .nil
  | _, _, 0, .cons _ t => t
  | _, _, n + 1, .cons r t => .cons r (RepL.erase n t)
theorem RepL.one {v : V} {d : D} (h : Rep K G v d) : RepL K G [v] [d] := .cons h .nil
theorem RepL.ints : ∀ (ns : List Int), RepL K G (ns.map V.int) (ns.map D.int)
  | [] => .nil
  | i :: r => .cons (.int i) (RepL.ints r)
end

/-! ### what may change: by its address -/
inductive MO where
  | lst (ds : List D) | dic (kvs : List (Str × D)) | ins (C : Addr) (fs : List (Str × D))
abbrev Mem := Addr → Option MO
def Mem.set (M : Mem) (a : Addr) (o : MO) : Mem := fun b => if b = a then some o else M b
def Mem.del (M : Mem) (a : Addr) : Mem := fun b => if b = a then none else M b
theorem Mem.set_same {M : Mem} {a : Addr} {o : MO} : M.set a o a = some o := by unfold Mem.set; rw [if_pos rfl]
theorem Mem.set_ne {M : Mem} {a b : Addr} {o : MO} (h : b ≠ a) : M.set a o b = M b := by unfold Mem.set; rw [if_neg h]
theorem Mem.del_same {M : Mem} {a : Addr} : M.del a a = none := by unfold Mem.del; rw [if_pos rfl]
theorem Mem.del_ne {M : Mem} {a b : Addr} (h : b ≠ a) : M.del a b = M b := by unfold Mem.del; rw [if_neg h]
theorem Mem.set_set {M : Mem} {a : Addr} {o u : MO} : (M.set a o).set a u = M.set a u := by
  funext b; unfold Mem.set; split <;> rfl
theorem Mem.del_set {M : Mem} {a : Addr} {o : MO} (h : M a = none) : (M.set a o).del a = M := by
  funext b
  show (if b = a then none else if b = a then some o else M b) = M b
  by_cases e : b = a
  · rw [if_pos e, e, h]
  · rw [if_neg e, if_neg e]
theorem Mem.set_eq {M : Mem} {a : Addr} {o : MO} (h : M a = some o) : M.set a o = M := by
  funext b
  show (if b = a then some o else M b) = M b
  by_cases e : b = a
  · rw [if_pos e, e, h]
  · rw [if_neg e]
theorem Mem.set_comm {M : Mem} {a b : Addr} {o u : MO} (h : a ≠ b) : (M.set a o).set b u = (M.set b u).set a o := by
  funext c
  show (if c = b then some u else if c = a then some o else M c) = (if c = a then some o else if c = b then some u else M c)
  by_cases e : c = b
  · subst e; rw [if_pos rfl, if_neg (Ne.symm h), if_pos rfl]
  · rw [if_neg e]
    by_cases e2 : c = a
    · rw [if_pos e2, if_pos e2]
    · rw [if_neg e2, if_neg e2, if_neg e]
def Mem.Sub (M N : Mem) : Prop := ∀ a o, M a = some o → N a = some o
theorem Mem.Sub.refl (M : Mem) : M.Sub M := fun _ _ h => h
theorem Mem.Sub.trans {M N P : Mem} (h : M.Sub N) (k : N.Sub P) : M.Sub P := fun a o e => k a o (h a o e)
theorem Mem.sub_set {M : Mem} {a : Addr} {o : MO} (h : M a = none) : M.Sub (M.set a o) := fun b u e => by
  rw [Mem.set_ne (fun z => by rw [z, h] at e; cases e)]; exact e
theorem Mem.sub_del {M : Mem} {a : Addr} : (M.del a).Sub M := fun b u e => by
  by_cases h : b = a
  · rw [h, Mem.del_same] at e; cases e
  · rw [Mem.del_ne h] at e; exact e

def MOk (K : PySem.W.Frag) (H G : Hp) (a : Addr) : MO → Prop
  | .lst ds => ∃ vs, H a = some (.lst vs) ∧ RepL K G vs ds ∧ ds.length ≤ sizeLine
  | .dic kvs => ∃ kv, H a = some (.dK kv) ∧ kv.map (·.1) = kvs.map (fun p => (Sum.inr p.1 : Key)) ∧ RepL K G (kv.map (·.2)) (kvs.map (·.2))
  | .ins C fs => ∃ dx fv, H a = some (.ins C dx fv) ∧ fv.map (·.1) = fs.map (·.1) ∧ RepL K G (fv.map (·.2)) (fs.map (·.2))
structure Ok (K : PySem.W.Frag) (H G : Hp) (M : Mem) : Prop where
  sub : Same G H
  mem : ∀ a o, M a = some o → G a = none ∧ MOk K H G a o
section
variable {K : PySem.W.Frag} {H H' G G' : Hp} {M M' : Mem} {a p : Addr} {o : HO} {m : MO}
theorem MOk.there (h : MOk K H G a m) : ∃ u, H a = some u := by
  cases m with
  | lst ds => obtain ⟨vs, e, _⟩ := h; exact ⟨_, e⟩
  | dic kvs => obtain ⟨vs, e, _⟩ := h; exact ⟨_, e⟩
  | ins C fs => obtain ⟨dx, fv, e, _⟩ := h; exact ⟨_, e⟩
theorem MOk.mono (h : MOk K H G a m) (e : H a = H' a) (g : Same G G') : MOk K H' G' a m := by
  cases m with
  | lst ds => obtain ⟨vs, h1, h2, z⟩ := h; exact ⟨vs, e ▸ h1, h2.mono g, z⟩
  | dic kvs => obtain ⟨vs, h1, k, h2⟩ := h; exact ⟨vs, e ▸ h1, k, h2.mono g⟩
  | ins C fs => obtain ⟨dx, fv, h1, k, h2⟩ := h; exact ⟨dx, fv, e ▸ h1, k, h2.mono g⟩
theorem Ok.ne (ok : Ok K H G M) (h : H p = none) (e : M a = some m) : a ≠ p := fun z => by
  obtain ⟨u, q⟩ := (ok.mem a m e).2.there
  rw [z, h] at q; cases q
theorem Ok.gnone (ok : Ok K H G M) (h : H p = none) : G p = none := ok.sub.free h
theorem Ok.mnone (ok : Ok K H G M) (h : H p = none) : M p = none := by
  cases e : M p with
  | none => rfl
  | some m => exact absurd rfl (ok.ne h e)
theorem Ok.weak (ok : Ok K H G M) (s : M'.Sub M) : Ok K H G M' := ⟨ok.sub, fun a o e => ok.mem a o (s a o e)⟩
theorem same_upd (h : G p = none) : Same G (upd G p o) := fun b u e => by rw [upd_ne (ne_of_none e h)]; exact e
/-- a new object that never changes -/
theorem Ok.frozen (ok : Ok K H G M) (h : H p = none) : Ok K (upd H p o) (upd G p o) M := by
  refine ⟨fun b u e => ?_, fun b u e => ?_⟩
  · by_cases hb : b = p
    · subst hb; rw [upd_same] at e ⊢; exact e
    · rw [upd_ne hb] at e ⊢; exact ok.sub b u e
  · have hb := ok.ne h e
    obtain ⟨h1, h2⟩ := ok.mem b u e
    exact ⟨by rw [upd_ne hb]; exact h1, h2.mono (by rw [upd_ne hb]) (same_upd (ok.gnone h))⟩
/-- a new object that nobody looks at -/
theorem Ok.extra (ok : Ok K H G M) (h : H p = none) : Ok K (upd H p o) G M := by
  refine ⟨fun b u e => ?_, fun b u e => ?_⟩
  · rw [upd_ne (ne_of_none (ok.sub b u e) h)]; exact ok.sub b u e
  · have hb := ok.ne h e
    obtain ⟨h1, h2⟩ := ok.mem b u e
    exact ⟨h1, h2.mono (by rw [upd_ne hb]) (Same.refl _)⟩
/-- an object written or laid that may change -/
theorem Ok.write (ok : Ok K H G M) (h : G a = none) (q : MOk K (upd H a o) G a m) : Ok K (upd H a o) G (M.set a m) := by
  refine ⟨fun b u e => ?_, fun b u e => ?_⟩
  · rw [upd_ne (ne_of_none e h)]; exact ok.sub b u e
  · by_cases hb : b = a
    · subst hb; rw [Mem.set_same] at e; cases e; exact ⟨h, q⟩
    · rw [Mem.set_ne hb] at e
      obtain ⟨h1, h2⟩ := ok.mem b u e
      exact ⟨h1, h2.mono (by rw [upd_ne hb]) (Same.refl _)⟩
/-- what may change no longer does -/
theorem Ok.freeze (ok : Ok K H G M) (e : M a = some m) (hH : H a = some o) : Ok K H (upd G a o) (M.del a) := by
  refine ⟨fun b u q => ?_, fun b u q => ?_⟩
  · by_cases hb : b = a
    · subst hb; rw [upd_same] at q; cases q; exact hH
    · rw [upd_ne hb] at q; exact ok.sub b u q
  · by_cases hb : b = a
    · rw [hb, Mem.del_same] at q; cases q
    · rw [Mem.del_ne hb] at q
      obtain ⟨h1, h2⟩ := ok.mem b u q
      exact ⟨by rw [upd_ne hb]; exact h1, h2.mono rfl (same_upd (ok.mem a m e).1)⟩
end

/-! ### readings over data -/
abbrev DS := List (Option D)
abbrev QD := D → Mem → Prop
abbrev XD := Addr → DS → Mem → Prop
abbrev DE := DS → Mem → QD → XD → Prop
abbrev DT := DS → Mem → (Bool → Mem → Prop) → XD → Prop
abbrev DA := DS → Mem → (List D → Mem → Prop) → XD → Prop
abbrev DO := DS → Mem → (Option Int → Mem → Prop) → XD → Prop
structure DEnds where
  nx : DS → Mem → Prop
  rt : QD
  bk : DS → Mem → Prop := fun _ _ => False
  ct : DS → Mem → Prop := fun _ _ => False
  xc : XD := fun _ _ _ => False
abbrev DSt := DEnds → DS → Mem → Prop

inductive SlotR (K : PySem.W.Frag) (G : Hp) : Option V → Option D → Prop
  | no {x : Option V} : SlotR K G x none
  | yes {v : V} {d : D} : Rep K G v d → SlotR K G (some v) (some d)
abbrev Slots (K : PySem.W.Frag) (G : Hp) : L2.St → DS → Prop := Paired (SlotR K G)
section
variable {K : PySem.W.Frag} {G G' : Hp}
theorem SlotR.mono (e : Same G G') {x : Option V} {y : Option D} (h : SlotR K G x y) : SlotR K G' x y := by
  cases h with
  | no => exact .no
  | yes r => exact .yes (r.mono e)
theorem Slots.mono (e : Same G G') {σ : L2.St} {δ : DS} (h : Slots K G σ δ) : Slots K G' σ δ := Paired.mapP h fun _ _ r => r.mono e
theorem Slots.set {x : Option V} {y : Option D} (r : SlotR K G x y) : ∀ {σ : L2.St} {δ : DS} (i : Nat), Slots K G σ δ → Slots K G (σ.set i x) (δ.set i y)
  | _, _, _, .nil => .nil
  | _, _, 0, .cons _ t => .cons r t
  | _, _, i + 1, .cons q t => .cons q (Slots.set r i t)
def slot : DS → Nat → Option D
  | [], _ => none
  | x :: _, 0 => x
  | _ :: r, n + 1 => slot r n
theorem Slots.get {d : D} : ∀ {σ : L2.St} {δ : DS} {i : Nat}, Slots K G σ δ → slot δ i = some d → ∃ v, σ[i]? = some (some v) ∧ Rep K G v d
  | _, _, _, .nil, e => by cases e
  | _, _, 0, .cons (a := x) (b := y) r t, e => by
    have e' : y = some d := e
    subst e'
    cases r with
    | yes r => exact ⟨_, rfl, r⟩
  | _, _, i + 1, .cons _ t, e => by
    obtain ⟨v, h1, h2⟩ := Slots.get (i := i) t e
    exact ⟨v, by simpa using h1, h2⟩
def dwipe (δ : DS) : List Nat → DS
  | [] => δ
  | v :: vs => (dwipe δ vs).set v none
theorem Slots.wipe {σ : L2.St} {δ : DS} (h : Slots K G σ δ) : ∀ vs : List Nat, Slots K G (wipe σ vs) (dwipe δ vs)
  | [] => h
  | v :: vs => Slots.set .no v (Slots.wipe h vs)
end

def WOk (K : PySem.W.Frag) (W : WX) (G : Hp) (X : XD) : Prop := ∀ cls δ M σ H G', X cls δ M → Ok K H G' M → Same G G' → Slots K G' σ δ → W (.ref cls) none σ H
theorem WOk.mono {K : PySem.W.Frag} {W : WX} {G G1 : Hp} {X : XD} (h : WOk K W G X) (e : Same G G1) : WOk K W G1 X := fun cls δ M σ H G' x ok s sl => h cls δ M σ H G' x ok (e.trans s) sl
theorem WOk.bot {K : PySem.W.Frag} {W : WX} {G : Hp} : WOk K W G (fun _ _ _ => False) := fun _ _ _ _ _ _ z => z.elim
abbrev W0 : WX := fun _ _ _ _ => False
def up (K : PySem.W.Frag) (W : WX) (t : DE) : TE := fun σ H Q => ∃ (G : Hp) (M : Mem) (δ : DS) (Q' : QD) (X' : XD), Ok K H G M ∧ Slots K G σ δ ∧ t δ M Q' X' ∧
  (∀ d M' v H' G', Q' d M' → Ok K H' G' M' → Same G G' → Rep K G' v d → Q v H') ∧ WOk K W G X'
def upT (K : PySem.W.Frag) (W : WX) (t : DT) : TT := fun σ H Q => ∃ (G : Hp) (M : Mem) (δ : DS) (Q' : Bool → Mem → Prop) (X' : XD), Ok K H G M ∧ Slots K G σ δ ∧ t δ M Q' X' ∧
  (∀ d M' H' G', Q' d M' → Ok K H' G' M' → Same G G' → Q d H') ∧ WOk K W G X'
def upA (K : PySem.W.Frag) (W : WX) (t : DA) : TA := fun σ H Q => ∃ (G : Hp) (M : Mem) (δ : DS) (Q' : List D → Mem → Prop) (X' : XD), Ok K H G M ∧ Slots K G σ δ ∧ t δ M Q' X' ∧
  (∀ ds M' vs H' G', Q' ds M' → Ok K H' G' M' → Same G G' → RepL K G' vs ds → Q vs H') ∧ WOk K W G X'
def upO (K : PySem.W.Frag) (W : WX) (t : DO) : TO := fun σ H Q => ∃ (G : Hp) (M : Mem) (δ : DS) (Q' : Option Int → Mem → Prop) (X' : XD), Ok K H G M ∧ Slots K G σ δ ∧ t δ M Q' X' ∧
  (∀ d M' H' G', Q' d M' → Ok K H' G' M' → Same G G' → Q d H') ∧ WOk K W G X'
/-- what a statement is to reach, over data, gives what it is to reach -/
structure EOk (K : PySem.W.Frag) (W : WX) (G : Hp) (E : DEnds) (D' : Ends) : Prop where
  nx : ∀ δ M σ H G', E.nx δ M → Ok K H G' M → Same G G' → Slots K G' σ δ → D'.nx σ H
  rt : ∀ d M v H G', E.rt d M → Ok K H G' M → Same G G' → Rep K G' v d → D'.rt v H
  bk : ∀ δ M σ H G', E.bk δ M → Ok K H G' M → Same G G' → Slots K G' σ δ → D'.bk σ H
  ct : ∀ δ M σ H G', E.ct δ M → Ok K H G' M → Same G G' → Slots K G' σ δ → D'.ct σ H
  xc : WOk K W G E.xc
def upS (K : PySem.W.Frag) (W : WX) (t : DSt) : TS := fun D' σ H => ∃ (G : Hp) (M : Mem) (δ : DS) (E : DEnds), Ok K H G M ∧ Slots K G σ δ ∧ t E δ M ∧ EOk K W G E D'

abbrev PD (X : Cx) (W : WX) (e : Expr) (t : DE) : Prop := PE X e (up X.K W t)
abbrev PDT (X : Cx) (W : WX) (e : Expr) (t : DT) : Prop := PT X e (upT X.K W t)
abbrev PDW (X : Cx) (W : WX) (e : Expr) (t : DT) : Prop := PW X e (upT X.K W t)
abbrev PDA (X : Cx) (W : WX) (es : List Expr) (t : DA) : Prop := PA X es (upA X.K W t)
abbrev PDO (X : Cx) (W : WX) (e : Option Expr) (t : DO) : Prop := PO X e (upO X.K W t)
abbrev PDS (X : Cx) (W : WX) (s : Stmt) (t : DSt) : Prop := PS X s (upS X.K W t)
abbrev PDSs (X : Cx) (W : WX) (s : List Stmt) (t : DSt) : Prop := PSs X s (upS X.K W t)

section
variable {X : Cx}
theorem PEw {e : Expr} {t t' : TE} (h : PE X e t) (w : ∀ σ H Q, t' σ H Q → t σ H Q) : PE X e t' := ⟨fun pins s σ H Q I q => h.run pins s σ H Q I (w σ H Q q)⟩
theorem PTw {e : Expr} {t t' : TT} (h : PT X e t) (w : ∀ σ H Q, t' σ H Q → t σ H Q) : PT X e t' := ⟨fun pins s σ H Q I q => h.run pins s σ H Q I (w σ H Q q)⟩
theorem PWw {e : Expr} {t t' : TT} (h : PW X e t) (w : ∀ σ H Q, t' σ H Q → t σ H Q) : PW X e t' := ⟨fun wh pins s σ H Q I q => h.run wh pins s σ H Q I (w σ H Q q)⟩
theorem PAw {e : List Expr} {t t' : TA} (h : PA X e t) (w : ∀ σ H Q, t' σ H Q → t σ H Q) : PA X e t' := ⟨fun pos pins s σ H Q I q => h.run pos pins s σ H Q I (w σ H Q q)⟩
theorem PSw {e : Stmt} {t t' : TS} (h : PS X e t) (w : ∀ D σ H, t' D σ H → t D σ H) : PS X e t' := ⟨fun pins s σ H D I q => h.run pins s σ H D I (w D σ H q)⟩
theorem PSsw {e : List Stmt} {t t' : TS} (h : PSs X e t) (w : ∀ D σ H, t' D σ H → t D σ H) : PSs X e t' := ⟨fun pins s σ H D I q => h.run pins s σ H D I (w D σ H q)⟩
theorem PE.or {e : Expr} {t u : TE} (h : PE X e t) (k : PE X e u) : PE X e (fun σ H Q => t σ H Q ∨ u σ H Q) :=
  ⟨fun pins s σ H Q I q => q.elim (fun z => h.run pins s σ H Q I z) (fun z => k.run pins s σ H Q I z)⟩
theorem OpR.or {f : Value → Value → Sem Value} {r r' : R2} (h : OpR X f r) (h' : OpR X f r') : OpR X f (fun x y H Q => r x y H Q ∨ r' x y H Q) :=
  fun pins s σ H x y v u Q I rx ry q => q.elim (fun z => h pins s σ H x y v u Q I rx ry z) (fun z => h' pins s σ H x y v u Q I rx ry z)
end
end DL

/-! The data layer: expressions -/
namespace DL
open PySem L2

/-- what is to be read at an address that may change -/
def resO (a : Addr) : Option MO → D
  | some (.lst ds) => .lst ds
  | some (.dic kvs) => .dic kvs
  | _ => .obj a
def res (M : Mem) : D → D
  | .obj a => resO a (M a)
  | .non => .non
  | .bl b => .bl b
  | .int i => .int i
  | .str s => .str s
  | .lst xs => .lst xs
  | .tup xs => .tup xs
  | .dic kvs => .dic kvs
  | .scr ns => .scr ns
  | .ty n => .ty n
section
variable {K : PySem.W.Frag} {H G : Hp} {M : Mem} {v : V} {d : D}
theorem Rep.obj_lst {a : Addr} {ds : List D} (ok : Ok K H G M) (e : resO a (M a) = .lst ds) : M a = some (.lst ds) := by
  cases q : M a with
  | none => rw [q] at e; cases e
  | some m =>
    rw [q] at e
    cases m with
    | lst es => cases e; rfl
    | dic kvs => cases e
    | ins C fs => cases e
theorem Rep.obj_dic {a : Addr} {ds : List (Str × D)} (ok : Ok K H G M) (e : resO a (M a) = .dic ds) : M a = some (.dic ds) := by
  cases q : M a with
  | none => rw [q] at e; cases e
  | some m =>
    rw [q] at e
    cases m with
    | lst es => cases e
    | dic kvs => cases e; rfl
    | ins C fs => cases e
theorem resO_ne {a : Addr} {o : Option MO} {d : D} (e : resO a o = d) : (∃ ds, d = .lst ds) ∨ (∃ kvs, d = .dic kvs) ∨ d = .obj a := by
  subst e
  cases o with
  | none => exact .inr (.inr rfl)
  | some m =>
    cases m with
    | lst es => exact .inl ⟨_, rfl⟩
    | dic kvs => exact .inr (.inl ⟨_, rfl⟩)
    | ins C fs => exact .inr (.inr rfl)
theorem Rep.lstOf {ds : List D} (ok : Ok K H G M) (r : Rep K G v d) (e : res M d = .lst ds) : ∃ a vs, v = .ref a ∧ H a = some (.lst vs) ∧ RepL K G vs ds ∧ ds.length ≤ sizeLine := by
  cases r with
  | lst h q z => cases e; exact ⟨_, _, rfl, ok.sub _ _ h, q, z⟩
  | obj a =>
    obtain ⟨_, vs, h1, h2, z⟩ := ok.mem _ _ (Rep.obj_lst ok e)
    exact ⟨_, vs, rfl, h1, h2, z⟩
  | non => cases e
  | bl => cases e
  | int => cases e
  | str => cases e
  | tup => cases e
  | dic => cases e
  | scr => cases e
  | ty => cases e
theorem Rep.dicOf {ds : List (Str × D)} (ok : Ok K H G M) (r : Rep K G v d) (e : res M d = .dic ds) : ∃ a kv, v = .ref a ∧ H a = some (.dK kv) ∧ kv.map (·.1) = ds.map (fun p => (Sum.inr p.1 : Key)) ∧ RepL K G (kv.map (·.2)) (ds.map (·.2)) := by
  cases r with
  | dic h k q => cases e; exact ⟨_, _, rfl, ok.sub _ _ h, k, q⟩
  | obj a =>
    obtain ⟨_, vs, h1, h2, z⟩ := ok.mem _ _ (Rep.obj_dic ok e)
    exact ⟨_, vs, rfl, h1, h2, z⟩
  | non => cases e
  | bl => cases e
  | int => cases e
  | str => cases e
  | tup => cases e
  | lst => cases e
  | scr => cases e
  | ty => cases e
theorem Rep.tupOf {ds : List D} (ok : Ok K H G M) (r : Rep K G v d) (e : res M d = .tup ds) : ∃ a vs, v = .ref a ∧ H a = some (.tup vs) ∧ RepL K G vs ds ∧ ds.length ≤ sizeLine := by
  cases r with
  | tup h q z => cases e; exact ⟨_, _, rfl, ok.sub _ _ h, q, z⟩
  | obj a => rcases resO_ne e with ⟨_, z⟩ | ⟨_, z⟩ | z <;> cases z
  | non => cases e
  | bl => cases e
  | int => cases e
  | str => cases e
  | lst => cases e
  | dic => cases e
  | scr => cases e
  | ty => cases e
theorem Rep.scrOf {ns : List Int} (ok : Ok K H G M) (r : Rep K G v d) (e : res M d = .scr ns) : ∃ a, v = .ref a ∧ SqL K H a (ns.map V.int) := by
  cases r with
  | scr h => cases e; exact ⟨_, rfl, ok.sub.seq h⟩
  | obj a => rcases resO_ne e with ⟨_, z⟩ | ⟨_, z⟩ | z <;> cases z
  | non => cases e
  | bl => cases e
  | int => cases e
  | str => cases e
  | lst => cases e
  | tup => cases e
  | dic => cases e
  | ty => cases e
theorem Rep.intOf {i : Int} (r : Rep K G v d) (e : res M d = .int i) : v = .int i := by
  cases r with
  | int => cases e; rfl
  | obj a => rcases resO_ne e with ⟨_, z⟩ | ⟨_, z⟩ | z <;> cases z
  | _ => cases e
theorem Rep.strOf {s : Str} (r : Rep K G v d) (e : res M d = .str s) : v = .str s ∧ strOk s = true := by
  cases r with
  | str _ h => cases e; exact ⟨rfl, h⟩
  | obj a => rcases resO_ne e with ⟨_, z⟩ | ⟨_, z⟩ | z <;> cases z
  | _ => cases e
theorem Rep.blOf {b : Bool} (r : Rep K G v d) (e : res M d = .bl b) : v = .bl b := by
  cases r with
  | bl => cases e; rfl
  | obj a => rcases resO_ne e with ⟨_, z⟩ | ⟨_, z⟩ | z <;> cases z
  | _ => cases e
theorem Rep.nonOf (r : Rep K G v d) (e : res M d = .non) : v = .non := by
  cases r with
  | non => rfl
  | obj a => rcases resO_ne e with ⟨_, z⟩ | ⟨_, z⟩ | z <;> cases z
  | _ => cases e
end

theorem res_tup {M : Mem} {d : D} {ds : List D} (e : res M d = .tup ds) : d = .tup ds := by
  cases d with
  | obj a => rcases resO_ne (show resO a (M a) = _ from e) with ⟨_, z⟩ | ⟨_, z⟩ | z <;> cases z
  | _ => exact e
/-! ### texts that are sound -/
theorem len_append (a b : Str) : (a ++ b).length = a.length + b.length := by
  show (a.cps ++ b.cps).size = a.cps.size + b.cps.size
  exact Array.size_append
theorem strOk_append {a b : Str} (h : strOk a = true) (k : strOk b = true) (l : a.length + b.length ≤ sizeLine) : strOk (a ++ b) = true := by
  refine strOk_mk ?_ (by rw [len_append]; exact l)
  have h := strOk_snd h
  have k := strOk_snd k
  unfold PyData.strOk at *
  rw [show (a ++ b).cps = a.cps ++ b.cps from rfl]
  simp_all [Array.all_append]

/-! ### names, constants, operators -/
def el {α : Type} : Option α → (α → Prop) → Prop
  | some d, F => F d
  | none, _ => False
theorem el_of {α : Type} {o : Option α} {F : α → Prop} (h : el o F) : ∃ d, o = some d ∧ F d := by
  cases o with
  | none => exact h.elim
  | some d => exact ⟨d, rfl, h⟩
def dVar (i : Nat) : DE := fun δ M Q _ => el (slot δ i) fun d => Q d M
def dC (d : D) : DE := fun _ M Q _ => Q d M
def dOp (o : D → D → Mem → QD → Prop) (ta tb : DE) : DE := fun δ M Q X => ta δ M (fun x M1 => tb δ M1 (fun y M2 => o x y M2 Q) X) X
def dUn (o : D → Mem → QD → Prop) (ta : DE) : DE := fun δ M Q X => ta δ M (fun x M1 => o x M1 Q) X
def LOp (K : PySem.W.Frag) (r : R2) (o : D → D → Mem → QD → Prop) : Prop := ∀ (x y : V) (H G : Hp) (M : Mem) (dx dy : D) (Q : VK) (Q' : QD), Ok K H G M → Rep K G x dx → Rep K G y dy → o dx dy M Q' →
  (∀ d M' v H' G', Q' d M' → Ok K H' G' M' → Same G G' → Rep K G' v d → Q v H') → r x y H Q
def LUn (K : PySem.W.Frag) (r : V → Hp → VK → Prop) (o : D → Mem → QD → Prop) : Prop := ∀ (x : V) (H G : Hp) (M : Mem) (dx : D) (Q : VK) (Q' : QD), Ok K H G M → Rep K G x dx → o dx M Q' →
  (∀ d M' v H' G', Q' d M' → Ok K H' G' M' → Same G G' → Rep K G' v d → Q v H') → r x H Q
section
variable {X : Cx} {W : WX} {a b c e : Expr} {ta tb tc te : DE} {pos : Pos} {K : PySem.W.Frag}
theorem pd_v (i : Nat) {x : Str} {pos : Pos} (hN : X.N[i]? = some x := by rfl) (hv : Vis X.env.scope x := by first | exact Or.inl rfl | exact Or.inr (Or.inl rfl) | exact Or.inr (Or.inr rfl)) (hd : (x == ("__debug__" : Str)) = false := by decide)
    (hcd : (x == ("__classdict__" : Str)) = false := by decide) : PD X W (.Name x pos) (dVar i) := by
  refine PEw (pe_var hN hv hd hcd) fun σ H Q ⟨G, M, δ, Q', X', ok, sl, h, hq, hx⟩ => ?_
  obtain ⟨d, e, h⟩ := el_of h
  obtain ⟨v, h1, h2⟩ := sl.get e
  exact ⟨v, h1, hq d M v H G h ok (Same.refl _) h2⟩
theorem pd_c {v : V} {d : D} (h : PE X e (tC v)) (r : ∀ G, Rep X.K G v d) : PD X W e (dC d) :=
  PEw h fun σ H Q ⟨G, M, δ, Q', X', ok, sl, h, hq, hx⟩ => hq d M v H G h ok (Same.refl _) (r G)
theorem pd_int {i j pos} : PD X W (.Constant (.int i) j pos) (dC (.int i)) := pd_c pe_int fun _ => .int i
theorem pd_bl {b j pos} : PD X W (.Constant (.bool b) j pos) (dC (.bl b)) := pd_c pe_bl fun _ => .bl b
theorem pd_non {j pos} : PD X W (.Constant .none j pos) (dC .non) := pd_c pe_non fun _ => .non
theorem pd_str {x j pos} (h : strOk x = true := by rfl) : PD X W (.Constant (.str x) j pos) (dC (.str x)) := pd_c pe_str fun _ => .str x h
theorem pd_glob {x : Str} {v : V} {d : D} {u : Value} {pos : Pos} (hg : Gl X x) (hm : X.mg x = some u) (r : RelV v u) (q : ∀ G, Rep X.K G v d) (hd : (x == ("__debug__" : Str)) = false := by decide) : PD X W (.Name x pos) (dC d) :=
  pd_c (pe_glob hg hm r hd) q
theorem up_op {r : R2} {o : D → D → Mem → QD → Prop} (l : LOp K r o) {σ : L2.St} {H : Hp} {Q : VK} (h : up K W (dOp o ta tb) σ H Q) : tOp r (up K W ta) (up K W tb) σ H Q := by
  obtain ⟨G, M, δ, Q', X', ok, sl, h, hq, hx⟩ := h
  exact ⟨G, M, δ, _, X', ok, sl, h, fun d M1 v H1 G1 h1 ok1 e1 r1 => ⟨G1, M1, δ, _, X', ok1, sl.mono e1, h1, fun d2 M2 v2 H2 G2 h2 ok2 e2 r2 =>
    l v v2 H2 G2 M2 d d2 Q Q' ok2 (r1.mono e2) r2 h2 fun d3 M3 v3 H3 G3 h3 ok3 e3 r3 => hq d3 M3 v3 H3 G3 h3 ok3 (e1.trans (e2.trans e3)) r3, hx.mono e1⟩, hx⟩
theorem pd_op {op : Operator} {r : R2} {o : D → D → Mem → QD → Prop} (ho : OpR X (binaryOp op) r) (l : LOp X.K r o) (ha : PD X W a ta) (hb : PD X W b tb) : PD X W (.BinOp a op b pos) (dOp o ta tb) :=
  PEw (pe_op ho ha hb) fun _ _ _ h => up_op l h
theorem pd_un {op : UnaryOp} {r : V → Hp → VK → Prop} {o : D → Mem → QD → Prop} (ho : UnR X (unaryOp op) r) (l : LUn X.K r o) (ha : PD X W a ta) : PD X W (.UnaryOp op a pos) (dUn o ta) :=
  PEw (pe_un ho ha) fun σ H Q ⟨G, M, δ, Q', X', ok, sl, h, hq, hx⟩ => ⟨G, M, δ, _, X', ok, sl, h, fun d M1 v H1 G1 h1 ok1 e1 r1 =>
    l v H1 G1 M1 d Q Q' ok1 r1 h1 fun d3 M3 v3 H3 G3 h3 ok3 e3 r3 => hq d3 M3 v3 H3 G3 h3 ok3 (e1.trans e3) r3, hx⟩
end

/-! ### the operators -/
def oAdd (x y : D) (M : Mem) (Q : QD) : Prop := match res M x, res M y with
  | .int i, .int j => Q (.int (i + j)) M
  | .str a, .str b => a.length + b.length ≤ sizeLine ∧ Q (.str (a ++ b)) M
  | .lst a, .lst b => a.length + b.length ≤ sizeLine ∧ Q (.lst (a ++ b)) M
  | .tup a, .tup b => a.length + b.length ≤ sizeLine ∧ Q (.tup (a ++ b)) M
  | _, _ => False
def oInt (C : Int → Int → Prop) (g : Int → Int → D) (x y : D) (M : Mem) (Q : QD) : Prop := match res M x, res M y with
  | .int i, .int j => C i j ∧ Q (g i j) M
  | _, _ => False
def oInt0 (g : Int → Int → D) (x y : D) (M : Mem) (Q : QD) : Prop := match res M x, res M y with
  | .int i, .int j => Q (g i j) M
  | _, _ => False
abbrev oSub := oInt0 fun i j => .int (i - j)
abbrev oMul := oInt CMul fun i j => .int (i * j)
abbrev oDiv := oInt CDiv fun i j => .int (i / j)
abbrev oMod := oInt (fun _ j => 0 < j) fun i j => .int (i % j)
abbrev oPow := oInt CPow fun i j => .int (i ^ j.toNat)
abbrev oLt := oInt0 fun i j => .bl (decide (i < j))
abbrev oLe := oInt0 fun i j => .bl (decide (i ≤ j))
abbrev oGt := oInt0 fun i j => .bl (decide (j < i))
abbrev oGe := oInt0 fun i j => .bl (decide (j ≤ i))
def oNeg (x : D) (M : Mem) (Q : QD) : Prop := match res M x with
  | .int i => Q (.int (-i)) M
  | _ => False

section
variable {X : Cx} {W : WX} {a b c e : Expr} {ta tb tc te : DE} {pos : Pos} {K : PySem.W.Frag}
theorem l_int0 {g : Int → Int → V} {g' : Int → Int → D} (q : ∀ G i j, Rep K G (g i j) (g' i j)) : LOp K (rI0 g) (oInt0 g') := by
  intro x y H G M dx dy Q Q' ok rx ry h hq
  unfold oInt0 at h
  split at h
  · rename_i i j e1 e2
    exact ⟨i, j, rx.intOf e1, ry.intOf e2, hq _ _ _ _ _ h ok (Same.refl _) (q _ _ _)⟩
  · exact h.elim
theorem l_int {C : Int → Int → Prop} {g : Int → Int → V} {g' : Int → Int → D} (q : ∀ G i j, Rep K G (g i j) (g' i j)) : LOp K (rI C g) (oInt C g') := by
  intro x y H G M dx dy Q Q' ok rx ry h hq
  unfold oInt at h
  split at h
  · rename_i i j e1 e2
    exact ⟨i, j, rx.intOf e1, ry.intOf e2, h.1, hq _ _ _ _ _ h.2 ok (Same.refl _) (q _ _ _)⟩
  · exact h.elim
def rAddA (K : PySem.W.Frag) : R2 := fun x y H Q => ((rI0 fun i j => .int (i + j)) x y H Q ∨ (∃ i j, x = .str i ∧ y = .str j ∧ i.length + j.length ≤ sizeLine ∧ Q (.str (i ++ j)) H)) ∨ (rCat x y H Q ∨ rCatA K x y H Q)
theorem op_addA : OpR X (binaryOp .Add) (rAddA X.K) := OpR.or (OpR.or op_add op_add_str) (OpR.or op_cat op_catA)
theorem l_add : LOp K (rAddA K) oAdd := by
  intro x y H G M dx dy Q Q' ok rx ry h hq
  unfold oAdd at h
  split at h
  · rename_i i j e1 e2
    exact .inl (.inl ⟨i, j, rx.intOf e1, ry.intOf e2, hq _ _ _ _ _ h ok (Same.refl _) (.int _)⟩)
  · rename_i i j e1 e2
    obtain ⟨f1, k1⟩ := rx.strOf e1
    obtain ⟨f2, k2⟩ := ry.strOf e2
    exact .inl (.inr ⟨i, j, f1, f2, h.1, hq _ _ _ _ _ h.2 ok (Same.refl _) (.str _ (strOk_append k1 k2 h.1))⟩)
  · rename_i as bs e1 e2
    obtain ⟨p1, v1, f1, h1, q1, z1⟩ := rx.lstOf ok e1
    obtain ⟨p2, v2, f2, h2, q2, z2⟩ := ry.lstOf ok e2
    refine .inr (.inl ⟨p1, p2, v1, v2, f1, f2, h1, h2, by rw [q1.len, q2.len]; exact h.1, fun p hp => ?_⟩)
    have gp := ok.gnone hp
    exact hq _ _ _ _ _ h.2 (ok.frozen hp) (same_upd gp) (.lst upd_same ((q1.append q2).mono (same_upd gp)) (by rw [List.length_append]; exact h.1))
  · rename_i as bs e1 e2
    obtain ⟨p1, v1, f1, h1, q1, z1⟩ := rx.tupOf ok e1
    obtain ⟨p2, v2, f2, h2, q2, z2⟩ := ry.tupOf ok e2
    have l1 := q1.len
    have l2 := q2.len
    refine .inr (.inr ⟨p1, p2, v1, v2, f1, f2, SqT.of h1, SqT.of h2, by rw [l1, l2]; exact h.1, fun z => ?_, fun z1 z2 => ?_, fun _ _ p hp => ?_⟩)
    · subst z
      have : as = [] := List.length_eq_zero_iff.mp l1.symm
      subst this
      have e3 := res_tup e2
      subst e3
      subst f2
      exact hq _ _ _ _ _ h.2 ok (Same.refl _) (by simpa using ry)
    · subst z2
      have : bs = [] := List.length_eq_zero_iff.mp l2.symm
      subst this
      have e3 := res_tup e1
      subst e3
      subst f1
      exact hq _ _ _ _ _ h.2 ok (Same.refl _) (by simpa using rx)
    · have gp := ok.gnone hp
      exact hq _ _ _ _ _ h.2 (ok.frozen hp) (same_upd gp) (.tup upd_same ((q1.append q2).mono (same_upd gp)) (by rw [List.length_append]; exact h.1))
  · exact h.elim
theorem pd_add (ha : PD X W a ta) (hb : PD X W b tb) : PD X W (.BinOp a .Add b pos) (dOp oAdd ta tb) := pd_op op_addA l_add ha hb
theorem pd_sub (ha : PD X W a ta) (hb : PD X W b tb) : PD X W (.BinOp a .Sub b pos) (dOp oSub ta tb) := pd_op op_sub (l_int0 fun _ _ _ => .int _) ha hb
theorem pd_mul (ha : PD X W a ta) (hb : PD X W b tb) : PD X W (.BinOp a .Mult b pos) (dOp oMul ta tb) := pd_op op_mul (l_int fun _ _ _ => .int _) ha hb
theorem pd_div (ha : PD X W a ta) (hb : PD X W b tb) : PD X W (.BinOp a .FloorDiv b pos) (dOp oDiv ta tb) := pd_op op_fdiv (l_int fun _ _ _ => .int _) ha hb
theorem pd_mod (ha : PD X W a ta) (hb : PD X W b tb) : PD X W (.BinOp a .Mod b pos) (dOp oMod ta tb) := pd_op op_mod (l_int fun _ _ _ => .int _) ha hb
theorem pd_pow (ha : PD X W a ta) (hb : PD X W b tb) : PD X W (.BinOp a .Pow b pos) (dOp oPow ta tb) := pd_op op_pow (l_int fun _ _ _ => .int _) ha hb
theorem pd_neg (ha : PD X W a ta) : PD X W (.UnaryOp .USub a pos) (dUn oNeg ta) := pd_un un_neg (fun x H G M dx Q Q' ok rx h hq => by
  unfold oNeg at h
  split at h
  · rename_i i e1
    exact ⟨i, rx.intOf e1, hq _ _ _ _ _ h ok (Same.refl _) (.int _)⟩
  · exact h.elim) ha
end
end DL

/-! The data layer: comparisons and tests -/
namespace DL
open PySem L2

/-! ### == over data -/
mutual
def toPy : D → PyData
  | .non => .none
  | .bl b => .bool b
  | .int i => .int i
  | .str s => .str s
  | .lst xs => .list (toPyL xs)
  | .tup xs => .tuple (toPyL xs)
  | .dic _ => .none
  | .scr _ => .none
  | .obj _ => .none
  | .ty _ => .none
def toPyL : List D → List PyData
  | [] => []
  | x :: xs => toPy x :: toPyL xs
end
mutual
/-- none, bools, ints, texts, lists, tuples, at most n deep -/
def flatN : Nat → D → Bool
  | _, .non => true
  | _, .bl _ => true
  | _, .int _ => true
  | _, .str _ => true
  | n + 1, .lst xs => flatL n xs
  | n + 1, .tup xs => flatL n xs
  | _, _ => false
def flatL : Nat → List D → Bool
  | _, [] => true
  | n, x :: xs => flatN n x && flatL n xs
end
theorem flatL_all (n : Nat) : ∀ xs : List D, flatL n xs = xs.all (flatN n)
  | [] => rfl
  | x :: xs => by unfold flatL; rw [flatL_all n xs, List.all_cons]
section
variable {K : PySem.W.Frag} {H G : Hp}
mutual
theorem Rep.dp (e : Same G H) : ∀ {n : Nat} {v : V} {d : D}, Rep K G v d → flatN n d = true → Dp K H v (toPy d) ∧ (toPy d).canLay0 = true ∧ (toPy d).depth ≤ n
  | n, _, _, .non, _ => ⟨.non, rfl, by simp [toPy, PyData.depth]⟩
  | n, _, _, .bl b, _ => ⟨.bl b, rfl, by simp [toPy, PyData.depth]⟩
  | n, _, _, .int i, _ => ⟨.int i, rfl, by simp [toPy, PyData.depth]⟩
  | n, _, _, .str s h, _ => ⟨.str s, strOk_snd h, by simp [toPy, PyData.depth]⟩
  | 0, _, _, .lst h r z, f => by simp [flatN] at f
  | 0, _, _, .tup h r z, f => by simp [flatN] at f
  | n + 1, _, _, .lst h r z, f => by
    obtain ⟨a, b, c⟩ := RepL.dp e (n := n) r (by simpa [flatN] using f)
    exact ⟨.lst (SqL.of (e _ _ h)) a, b, by simp only [toPy, PyData.depth]; omega⟩
  | n + 1, _, _, .tup h r z, f => by
    obtain ⟨a, b, c⟩ := RepL.dp e (n := n) r (by simpa [flatN] using f)
    exact ⟨.tup (SqT.of (e _ _ h)) a, b, by simp only [toPy, PyData.depth]; omega⟩
  | n, _, _, .dic h k r, f => by cases n <;> simp [flatN] at f
  | n, _, _, .scr h, f => by cases n <;> simp [flatN] at f
  | n, _, _, .obj a, f => by cases n <;> simp [flatN] at f
  | n, _, _, .ty a, f => by cases n <;> simp [flatN] at f
theorem RepL.dp (e : Same G H) : ∀ {n : Nat} {vs : List V} {ds : List D}, RepL K G vs ds → flatL n ds = true → DpAll K H vs (toPyL ds) ∧ PyData.canLayAll0 (toPyL ds) = true ∧ PyData.depthAll (toPyL ds) ≤ n
  | n, _, _, .nil, _ => ⟨.nil, rfl, Nat.zero_le _⟩
  | n, _, _, .cons h t, f => by
    unfold flatL at f
    rw [Bool.and_eq_true] at f
    obtain ⟨a, b, c⟩ := Rep.dp e (n := n) h f.1
    obtain ⟨a2, b2, c2⟩ := RepL.dp e (n := n) t f.2
    exact ⟨.cons a a2, by simp only [toPyL, PyData.canLayAll0, b, b2]; rfl, by simp only [toPyL, PyData.depthAll]; omega⟩
end
end
def D.eqv (x y : D) : Bool := PyData.eqv (toPy x) (toPy y)
def D.eqvL (xs ys : List D) : Bool := PyData.eqvAll (toPyL xs) (toPyL ys)
/-- == of scalars, where the kinds are told -/
def eqS : D → D → Option Bool
  | .non, .non => some true
  | .non, .int _ => some false
  | .int _, .non => some false
  | .non, .bl _ => some false
  | .bl _, .non => some false
  | .non, .str _ => some false
  | .str _, .non => some false
  | .int _, .str _ => some false
  | .str _, .int _ => some false
  | .bl _, .str _ => some false
  | .str _, .bl _ => some false
  | .int i, .int j => some (decide (i = j))
  | .bl i, .bl j => some (decide (i = j))
  | .str i, .str j => some (decide (i = j))
  | _, _ => none
def oEqN (neg : Bool) (x y : D) (M : Mem) (Q : QD) : Prop := match eqS x y with
  | some b => Q (.bl (cond neg (!b) b)) M
  | none => flatN 9 (res M x) = true ∧ flatN 9 (res M y) = true ∧ Q (.bl (cond neg (!D.eqv (res M x) (res M y)) (D.eqv (res M x) (res M y)))) M
abbrev oEq := oEqN false
abbrev oNe := oEqN true
section
variable {K : PySem.W.Frag} {H G : Hp} {M : Mem}
theorem Rep.eqS {v w : V} {x y : D} {b : Bool} (rx : Rep K G v x) (ry : Rep K G w y) (e : eqS x y = some b) : scal v w = true ∧ decide (v = w) = b := by
  cases rx <;> cases ry <;> first | (cases e; done) | skip
  all_goals first | (cases e; exact ⟨rfl, by simp⟩) | (cases e; exact ⟨rfl, rfl⟩) | (simp [DL.eqS] at e; exact ⟨rfl, by rw [← e]; simp⟩)
theorem Rep.resDp {v : V} {d : D} (ok : Ok K H G M) (r : Rep K G v d) (f : flatN 9 (res M d) = true) : Dp K H v (toPy (res M d)) ∧ SeqAt.shaped (toPy (res M d)) = true := by
  have fin : ∀ {d' : D}, (Dp K H v (toPy d') ∧ (toPy d').canLay0 = true ∧ (toPy d').depth ≤ 9) → Dp K H v (toPy d') ∧ SeqAt.shaped (toPy d') = true := fun ⟨a, b, c⟩ =>
    ⟨a, by unfold SeqAt.shaped; rw [b, Bool.true_and]; exact decide_eq_true (by omega)⟩
  cases r with
  | obj a =>
    cases q : res M (.obj a) with
    | lst ds =>
      rw [q] at f
      obtain ⟨_, vs, h1, h2, z⟩ := ok.mem _ _ (Rep.obj_lst ok q)
      obtain ⟨a1, b1, c1⟩ := RepL.dp ok.sub (n := 8) h2 (by simpa [flatN] using f)
      exact fin ⟨.lst (SqL.of h1) a1, b1, by simp only [toPy, PyData.depth]; omega⟩
    | dic kvs => rw [q] at f; simp [flatN] at f
    | obj b => rw [q] at f; simp [flatN] at f
    | _ => rcases resO_ne q with ⟨_, z⟩ | ⟨_, z⟩ | z <;> cases z
  | non => exact fin (Rep.dp ok.sub .non f)
  | bl b => exact fin (Rep.dp ok.sub (.bl b) f)
  | int i => exact fin (Rep.dp ok.sub (.int i) f)
  | str s h => exact fin (Rep.dp ok.sub (.str s h) f)
  | lst h q z => exact fin (Rep.dp ok.sub (.lst h q z) f)
  | tup h q z => exact fin (Rep.dp ok.sub (.tup h q z) f)
  | dic h k q => exact fin (Rep.dp ok.sub (.dic h k q) f)
  | scr h => exact fin (Rep.dp ok.sub (.scr h) f)
  | ty h => exact fin (Rep.dp ok.sub (.ty h) f)
def rEqA (K : PySem.W.Frag) : R2 := fun x y H Q => rEq x y H Q ∨ rEqD K x y H Q
def rNeA (K : PySem.W.Frag) : R2 := fun x y H Q => rNe x y H Q ∨ rNeD K x y H Q
theorem l_eq : LOp K (rEqA K) oEq := by
  intro x y H G M dx dy Q Q' ok rx ry h hq
  unfold oEq oEqN at h
  split at h
  · rename_i b e
    obtain ⟨s, q⟩ := rx.eqS ry e
    exact .inl ⟨s, by rw [q]; exact hq _ _ _ _ _ h ok (Same.refl _) (.bl _)⟩
  · obtain ⟨f1, f2, h⟩ := h
    obtain ⟨a1, b1⟩ := rx.resDp ok f1
    obtain ⟨a2, b2⟩ := ry.resDp ok f2
    exact .inr ⟨_, _, a1, a2, b1, b2, hq _ _ _ _ _ h ok (Same.refl _) (.bl _)⟩
theorem l_ne : LOp K (rNeA K) oNe := by
  intro x y H G M dx dy Q Q' ok rx ry h hq
  unfold oNe oEqN at h
  split at h
  · rename_i b e
    obtain ⟨s, q⟩ := rx.eqS ry e
    exact .inl ⟨s, by rw [q]; exact hq _ _ _ _ _ h ok (Same.refl _) (.bl _)⟩
  · obtain ⟨f1, f2, h⟩ := h
    obtain ⟨a1, b1⟩ := rx.resDp ok f1
    obtain ⟨a2, b2⟩ := ry.resDp ok f2
    exact .inr ⟨_, _, a1, a2, b1, b2, hq _ _ _ _ _ h ok (Same.refl _) (.bl _)⟩
end

/-! ### in -/
def flatD : D → Bool
  | .non => true
  | .bl _ => true
  | .int _ => true
  | .str _ => true
  | _ => false
def eqF : D → D → Bool
  | .non, .non => true
  | .bl a, .bl b => a == b
  | .bl a, .int b => (if a then 1 else 0) == b
  | .int a, .bl b => a == (if b then 1 else 0)
  | .int a, .int b => a == b
  | .str a, .str b => a == b
  | _, _ => false
def inD (x : D) (xs : List D) : Bool := xs.any fun y => eqF y x
def oInN (neg : Bool) (x y : D) (M : Mem) (Q : QD) : Prop := match res M y with
  | .lst ds => flatD x = true ∧ ds.all flatD = true ∧ Q (.bl (cond neg (!inD x ds) (inD x ds))) M
  | .tup ds => flatD x = true ∧ ds.all flatD = true ∧ Q (.bl (cond neg (!inD x ds) (inD x ds))) M
  | .str z => (match x with
    | .str ⟨⟨[c]⟩⟩ => Q (.bl (cond neg (!decide (c ∈ z.cps.toList)) (decide (c ∈ z.cps.toList)))) M
    | _ => False)
  | _ => False
abbrev oIn := oInN false
abbrev oNotIn := oInN true
section
variable {K : PySem.W.Frag} {H G : Hp} {M : Mem}
theorem Rep.flat {v : V} {d : D} (r : Rep K G v d) (f : flatD d = true) : flatV v = true := by
  cases r <;> first | rfl | cases f
theorem RepL.flat : ∀ {vs : List V} {ds : List D}, RepL K G vs ds → ds.all flatD = true → vs.all flatV = true
  | _, _, .nil, _ => rfl
  | _, _, .cons h t, f => by
    rw [List.all_cons, Bool.and_eq_true] at f ⊢
    exact ⟨h.flat f.1, t.flat f.2⟩
theorem Rep.eqF {v w : V} {x y : D} (rx : Rep K G v x) (ry : Rep K G w y) : flatD x = true → flatD y = true → eqV v w = eqF x y := by
  intro f g
  cases rx <;> first | (cases f; done) | skip
  all_goals (cases ry <;> first | (cases g; done) | rfl)
theorem RepL.inD {v : V} {x : D} (rx : Rep K G v x) (fx : flatD x = true) : ∀ {vs : List V} {ds : List D}, RepL K G vs ds → ds.all flatD = true → inV v vs = inD x ds
  | _, _, .nil, _ => rfl
  | _, _, .cons h t, f => by
    rw [List.all_cons, Bool.and_eq_true] at f
    unfold inV DL.inD
    rw [List.any_cons, List.any_cons, h.eqF rx f.1 fx]
    exact congrArg _ (RepL.inD rx fx t f.2)
def rInA (K : PySem.W.Frag) : R2 := fun x y H Q => rIn K false x y H Q ∨ ∃ (c : Nat) (z : Str), x = .str ⟨#[c]⟩ ∧ y = .str z ∧ Q (.bl (decide (c ∈ z.cps.toList))) H
def rNotInA (K : PySem.W.Frag) : R2 := fun x y H Q => rIn K true x y H Q ∨ ∃ (c : Nat) (z : Str), x = .str ⟨#[c]⟩ ∧ y = .str z ∧ Q (.bl (!decide (c ∈ z.cps.toList))) H
theorem l_inG {neg : Bool} {r : R2} (hr : ∀ x y H Q, rIn K neg x y H Q → r x y H Q) (hs : ∀ x y H Q, (∃ (c : Nat) (z : Str), x = .str ⟨#[c]⟩ ∧ y = .str z ∧ Q (.bl (cond neg (!decide (c ∈ z.cps.toList)) (decide (c ∈ z.cps.toList)))) H) → r x y H Q) : LOp K r (oInN neg) := by
  intro x y H G M dx dy Q Q' ok rx ry h hq
  unfold oInN at h
  have bb : ∀ b c : Bool, (if neg = true then b else c) = cond neg b c := by cases neg <;> intros <;> rfl
  split at h
  · rename_i ds e
    obtain ⟨p, vs, f, h1, q, z⟩ := ry.lstOf ok e
    obtain ⟨fx, fs, h⟩ := h
    exact hr _ _ _ _ ⟨p, vs, f, .inl (SqL.of h1), rx.flat fx, q.flat fs, by rw [q.inD rx fx fs, bb]; exact hq _ _ _ _ _ h ok (Same.refl _) (.bl _)⟩
  · rename_i ds e
    obtain ⟨p, vs, f, h1, q, z⟩ := ry.tupOf ok e
    obtain ⟨fx, fs, h⟩ := h
    exact hr _ _ _ _ ⟨p, vs, f, .inr (SqT.of h1), rx.flat fx, q.flat fs, by rw [q.inD rx fx fs, bb]; exact hq _ _ _ _ _ h ok (Same.refl _) (.bl _)⟩
  · rename_i z e
    split at h
    · rename_i c
      cases rx
      exact hs _ _ _ _ ⟨c, z, rfl, (ry.strOf e).1, hq _ _ _ _ _ h ok (Same.refl _) (.bl _)⟩
    · exact h.elim
  · exact h.elim
end

/-! ### comparisons as values, as tests -/
def asB (d : D) (M : Mem) (Q : Bool → Mem → Prop) : Prop := match d with
  | .bl b => Q b M
  | _ => False
def dB (t : DE) : DT := fun δ M Q X => t δ M (fun d M1 => asB d M1 Q) X
def isN : D → Bool
  | .non => true
  | _ => false
def dIsN (neg : Bool) (t : DE) : DE := fun δ M Q X => t δ M (fun d M1 => Q (.bl (cond neg (!isN d) (isN d))) M1) X
def dChain (o o' : D → D → Mem → QD → Prop) (ta tb tc : DE) : DE := fun δ M Q X => ta δ M (fun x M1 => tb δ M1 (fun y M2 => o x y M2 fun z M3 => asB z M3 fun b M3 => cond b (tc δ M3 (fun w M4 => o' y w M4 Q) X) (Q (.bl false) M3)) X) X
section
variable {X : Cx} {W : WX} {a b c e : Expr} {ta tb tc te : DE} {pos : Pos} {K : PySem.W.Frag} {op op' : CmpOp} {r r' : R2} {o o' : D → D → Mem → QD → Prop}
theorem asB_of {G : Hp} {M : Mem} {d : D} {v : V} {Q : Bool → Mem → Prop} (h : asB d M Q) (r : Rep K G v d) : ∃ k, v = .bl k ∧ Q k M := by
  unfold asB at h
  split at h
  · cases r; exact ⟨_, rfl, h⟩
  · exact h.elim
theorem up_B {t : DE} {σ : L2.St} {H : Hp} {Q : Bool → Hp → Prop} (h : upT K W (dB t) σ H Q) : up K W t σ H fun x H' => ∃ k, x = .bl k ∧ Q k H' := by
  obtain ⟨G, M, δ, Q', X', ok, sl, h, hq, hx⟩ := h
  refine ⟨G, M, δ, _, X', ok, sl, h, fun d M' v H' G' h1 ok' e' r' => ?_, hx⟩
  obtain ⟨k, e1, h2⟩ := asB_of h1 r'
  exact ⟨k, e1, hq k M' H' G' h2 ok' e'⟩
theorem pd_cmp (ho : OpR X (compareOp op) r) (l : LOp X.K r o) (ha : PD X W a ta) (hb : PD X W b tb) (hm : behindInMarks op b = false := by rfl) : PD X W (.Compare a [op] [b] pos) (dOp o ta tb) :=
  PEw (pe_cmpR ho ha hb hm) fun _ _ _ h => up_op l h
theorem pdt_cmp (ho : OpR X (compareOp op) r) (l : LOp X.K r o) (ha : PD X W a ta) (hb : PD X W b tb) (hm : behindInMarks op b = false := by rfl) : PDT X W (.Compare a [op] [b] pos) (dB (dOp o ta tb)) :=
  PTw (pt_cmpR ho ha hb hm) fun _ _ _ h => up_op l (up_B h)
theorem pdt_val (h : PD X W e te) (he : ∀ whole, isTrue e X.env whole = (do let v ← whole; standAt e.pos; holding [v] (truthy v)) := by intro _; rfl) : PDT X W e (dB te) :=
  PTw (pt_val h he) fun _ _ _ h => up_B h
theorem up_isN {neg : Bool} {t : DE} {σ : L2.St} {H : Hp} {Q : VK} (h : up K W (dIsN neg t) σ H Q) : up K W t σ H fun x H1 => Q (.bl (cond neg (!decide (x = .non)) (decide (x = .non)))) H1 := by
  obtain ⟨G, M, δ, Q', X', ok, sl, h, hq, hx⟩ := h
  refine ⟨G, M, δ, _, X', ok, sl, h, fun d M' v H' G' h1 ok' e' r' => ?_, hx⟩
  have : decide (v = .non) = isN d := by cases r' <;> simp [isN]
  show Q (V.bl (cond neg (!decide (v = .non)) (decide (v = .non)))) H'
  rw [this]
  exact hq _ M' _ H' G' h1 ok' e' (.bl _)
theorem pd_isN {j pos'} (ha : PD X W a ta) : PD X W (.Compare a [.Is] [.Constant .none j pos'] pos) (dIsN false ta) := PEw (pe_cmp (pc_isN ha) rfl) fun _ _ _ h => up_isN h
theorem pd_notN {j pos'} (ha : PD X W a ta) : PD X W (.Compare a [.IsNot] [.Constant .none j pos'] pos) (dIsN true ta) := PEw (pe_cmp (pc_notN ha) rfl) fun _ _ _ h => up_isN h
theorem pdt_isN {j pos'} (ha : PD X W a ta) : PDT X W (.Compare a [.Is] [.Constant .none j pos'] pos) (dB (dIsN false ta)) := PTw (pt_cmp (pc_isN ha) rfl) fun _ _ _ h => up_isN (up_B h)
theorem pdt_notN {j pos'} (ha : PD X W a ta) : PDT X W (.Compare a [.IsNot] [.Constant .none j pos'] pos) (dB (dIsN true ta)) := PTw (pt_cmp (pc_notN ha) rfl) fun _ _ _ h => up_isN (up_B h)
theorem up_chain (l : LOp K r o) (l' : LOp K r' o') {σ : L2.St} {H : Hp} {Q : VK} (h : up K W (dChain o o' ta tb tc) σ H Q) : tChain r r' (up K W ta) (up K W tb) (up K W tc) σ H Q := by
  obtain ⟨G, M, δ, Q', X', ok, sl, h, hq, hx⟩ := h
  refine ⟨G, M, δ, _, X', ok, sl, h, fun d M1 v H1 G1 h1 ok1 e1 r1 => ⟨G1, M1, δ, _, X', ok1, sl.mono e1, h1, fun d2 M2 v2 H2 G2 h2 ok2 e2 r2 => ?_, hx.mono e1⟩, hx⟩
  refine l v v2 H2 G2 M2 d d2 _ _ ok2 (r1.mono e2) r2 h2 fun d3 M3 v3 H3 G3 h3 ok3 e3 r3 => ?_
  obtain ⟨k, ek, h4⟩ := asB_of h3 r3
  refine ⟨k, ek, ?_⟩
  cases k with
  | true =>
    rw [if_pos rfl]
    refine ⟨G3, M3, δ, _, X', ok3, (sl.mono e1).mono (e2.trans e3), h4, fun d5 M5 v5 H5 G5 h5 ok5 e5 r5 => ?_, hx.mono (e1.trans (e2.trans e3))⟩
    exact l' v2 v5 H5 G5 M5 d2 d5 Q Q' ok5 (r2.mono (e3.trans e5)) r5 h5 fun d6 M6 v6 H6 G6 h6 ok6 e6 r6 => hq d6 M6 v6 H6 G6 h6 ok6 (e1.trans (e2.trans (e3.trans (e5.trans e6)))) r6
  | false =>
    rw [if_neg Bool.false_ne_true]
    exact hq _ M3 _ H3 G3 h4 ok3 (e1.trans (e2.trans e3)) (.bl _)
theorem pd_chain (ho : OpR X (compareOp op) r) (ho' : OpR X (compareOp op') r') (l : LOp X.K r o) (l' : LOp X.K r' o') (ha : PD X W a ta) (hb : PD X W b tb) (hc : PD X W c tc)
    (hm : lastMarks [op, op'] [b, c] = false := by with_unfolding_all rfl) : PD X W (.Compare a [op, op'] [b, c] pos) (dChain o o' ta tb tc) := PEw (pe_chain ho ho' ha hb hc hm) fun _ _ _ h => up_chain l l' h
theorem pdt_chain (ho : OpR X (compareOp op) r) (ho' : OpR X (compareOp op') r') (l : LOp X.K r o) (l' : LOp X.K r' o') (ha : PD X W a ta) (hb : PD X W b tb) (hc : PD X W c tc)
    (hm : lastMarks [op, op'] [b, c] = false := by with_unfolding_all rfl) : PDT X W (.Compare a [op, op'] [b, c] pos) (dB (dChain o o' ta tb tc)) := PTw (pt_chain ho ho' ha hb hc hm) fun _ _ _ h => up_chain l l' (up_B h)
abbrev l_cmp {g : Int → Int → Bool} : LOp K (rI0 fun i j => .bl (g i j)) (oInt0 fun i j => .bl (g i j)) := l_int0 fun _ _ _ => .bl _
theorem pd_lt (ha : PD X W a ta) (hb : PD X W b tb) : PD X W (.Compare a [.Lt] [b] pos) (dOp oLt ta tb) := pd_cmp op_lt l_cmp ha hb (nomark _)
theorem pd_le (ha : PD X W a ta) (hb : PD X W b tb) : PD X W (.Compare a [.LtE] [b] pos) (dOp oLe ta tb) := pd_cmp op_le l_cmp ha hb (nomark _)
theorem pd_gt (ha : PD X W a ta) (hb : PD X W b tb) : PD X W (.Compare a [.Gt] [b] pos) (dOp oGt ta tb) := pd_cmp op_gt l_cmp ha hb (nomark _)
theorem pd_ge (ha : PD X W a ta) (hb : PD X W b tb) : PD X W (.Compare a [.GtE] [b] pos) (dOp oGe ta tb) := pd_cmp op_ge l_cmp ha hb (nomark _)
theorem pdt_lt (ha : PD X W a ta) (hb : PD X W b tb) : PDT X W (.Compare a [.Lt] [b] pos) (dB (dOp oLt ta tb)) := pdt_cmp op_lt l_cmp ha hb (nomark _)
theorem pdt_le (ha : PD X W a ta) (hb : PD X W b tb) : PDT X W (.Compare a [.LtE] [b] pos) (dB (dOp oLe ta tb)) := pdt_cmp op_le l_cmp ha hb (nomark _)
theorem pdt_gt (ha : PD X W a ta) (hb : PD X W b tb) : PDT X W (.Compare a [.Gt] [b] pos) (dB (dOp oGt ta tb)) := pdt_cmp op_gt l_cmp ha hb (nomark _)
theorem pdt_ge (ha : PD X W a ta) (hb : PD X W b tb) : PDT X W (.Compare a [.GtE] [b] pos) (dB (dOp oGe ta tb)) := pdt_cmp op_ge l_cmp ha hb (nomark _)
theorem op_eqA (hu : X.A.units + 64 < cLine) : OpR X (compareOp .Eq) (rEqA X.K) := OpR.or op_eq (op_eqD hu)
theorem op_neA (hu : X.A.units + 64 < cLine) : OpR X (compareOp .NotEq) (rNeA X.K) := OpR.or op_ne (op_neD hu)
theorem pd_eq (hu : X.A.units + 64 < cLine) (ha : PD X W a ta) (hb : PD X W b tb) : PD X W (.Compare a [.Eq] [b] pos) (dOp oEq ta tb) := pd_cmp (op_eqA hu) l_eq ha hb (nomark _)
theorem pd_ne (hu : X.A.units + 64 < cLine) (ha : PD X W a ta) (hb : PD X W b tb) : PD X W (.Compare a [.NotEq] [b] pos) (dOp oNe ta tb) := pd_cmp (op_neA hu) l_ne ha hb (nomark _)
theorem pdt_eq (hu : X.A.units + 64 < cLine) (ha : PD X W a ta) (hb : PD X W b tb) : PDT X W (.Compare a [.Eq] [b] pos) (dB (dOp oEq ta tb)) := pdt_cmp (op_eqA hu) l_eq ha hb (nomark _)
theorem pdt_ne (hu : X.A.units + 64 < cLine) (ha : PD X W a ta) (hb : PD X W b tb) : PDT X W (.Compare a [.NotEq] [b] pos) (dB (dOp oNe ta tb)) := pdt_cmp (op_neA hu) l_ne ha hb (nomark _)
theorem op_inA : OpR X (compareOp .In) (rInA X.K) := OpR.or op_in_seq op_in_sign
theorem op_notInA : OpR X (compareOp .NotIn) (rNotInA X.K) := OpR.or op_notIn_seq op_notIn_sign
theorem l_in : LOp K (rInA K) oIn := l_inG (fun _ _ _ _ h => .inl h) fun _ _ _ _ h => .inr h
theorem l_notIn : LOp K (rNotInA K) oNotIn := l_inG (fun _ _ _ _ h => .inl h) fun _ _ _ _ h => .inr h
theorem pd_in (ha : PD X W a ta) (hb : PD X W b tb) (hm : behindInMarks .In b = false := by rfl) : PD X W (.Compare a [.In] [b] pos) (dOp oIn ta tb) := pd_cmp op_inA l_in ha hb hm
theorem pd_notIn (ha : PD X W a ta) (hb : PD X W b tb) (hm : behindInMarks .NotIn b = false := by rfl) : PD X W (.Compare a [.NotIn] [b] pos) (dOp oNotIn ta tb) := pd_cmp op_notInA l_notIn ha hb hm
theorem pdt_in (ha : PD X W a ta) (hb : PD X W b tb) (hm : behindInMarks .In b = false := by rfl) : PDT X W (.Compare a [.In] [b] pos) (dB (dOp oIn ta tb)) := pdt_cmp op_inA l_in ha hb hm
theorem pdt_notIn (ha : PD X W a ta) (hb : PD X W b tb) (hm : behindInMarks .NotIn b = false := by rfl) : PDT X W (.Compare a [.NotIn] [b] pos) (dB (dOp oNotIn ta tb)) := pdt_cmp op_notInA l_notIn ha hb hm
end

/-! ### and, or, not, if -/
def dAnd (t u : DT) : DT := fun δ M Q X => t δ M (fun b M1 => cond b (u δ M1 Q X) (Q false M1)) X
def dOr (t u : DT) : DT := fun δ M Q X => t δ M (fun b M1 => cond b (Q true M1) (u δ M1 Q X)) X
def dNot (t : DT) : DT := fun δ M Q X => t δ M (fun b M1 => Q (!b) M1) X
def dAndV (t u : DE) : DE := fun δ M Q X => t δ M (fun d M1 => asB d M1 fun b M1 => cond b (u δ M1 Q X) (Q (.bl false) M1)) X
def dOrV (t u : DE) : DE := fun δ M Q X => t δ M (fun d M1 => asB d M1 fun b M1 => cond b (Q (.bl true) M1) (u δ M1 Q X)) X
def dNotV (t : DE) : DE := fun δ M Q X => t δ M (fun d M1 => asB d M1 fun b M1 => Q (.bl (!b)) M1) X
def dIf (c : DT) (t u : DE) : DE := fun δ M Q X => c δ M (fun b M1 => cond b (t δ M1 Q X) (u δ M1 Q X)) X
section
variable {X : Cx} {W : WX} {a b c e : Expr} {ta tb tc te : DE} {t u tt : DT} {pos : Pos} {K : PySem.W.Frag} {rest : List Expr}
theorem pdw_and1 (ha : PDT X W a t) : PDW X W (.BoolOp .And [a] pos) t := pw_and1 ha
theorem pdw_or1 (ha : PDT X W a t) : PDW X W (.BoolOp .Or [a] pos) t := pw_or1 ha
theorem pdw_and (ha : PDT X W a t) (hb : PDW X W (.BoolOp .And (b :: rest) pos) u) : PDW X W (.BoolOp .And (a :: b :: rest) pos) (dAnd t u) :=
  PWw (pw_and ha hb) fun σ H Q ⟨G, M, δ, Q', X', ok, sl, h, hq, hx⟩ => ⟨G, M, δ, _, X', ok, sl, h, fun d M1 H1 G1 h1 ok1 e1 => by
    cases d with
    | true => rw [if_pos rfl]; exact ⟨G1, M1, δ, _, X', ok1, sl.mono e1, h1, fun d2 M2 H2 G2 h2 ok2 e2 => hq d2 M2 H2 G2 h2 ok2 (e1.trans e2), hx.mono e1⟩
    | false => rw [if_neg Bool.false_ne_true]; exact hq _ _ _ _ h1 ok1 e1, hx⟩
theorem pdw_or (ha : PDT X W a t) (hb : PDW X W (.BoolOp .Or (b :: rest) pos) u) : PDW X W (.BoolOp .Or (a :: b :: rest) pos) (dOr t u) :=
  PWw (pw_or ha hb) fun σ H Q ⟨G, M, δ, Q', X', ok, sl, h, hq, hx⟩ => ⟨G, M, δ, _, X', ok, sl, h, fun d M1 H1 G1 h1 ok1 e1 => by
    cases d with
    | false => rw [if_neg Bool.false_ne_true]; exact ⟨G1, M1, δ, _, X', ok1, sl.mono e1, h1, fun d2 M2 H2 G2 h2 ok2 e2 => hq d2 M2 H2 G2 h2 ok2 (e1.trans e2), hx.mono e1⟩
    | true => rw [if_pos rfl]; exact hq _ _ _ _ h1 ok1 e1, hx⟩
theorem pdt_w (h : PDW X W e t) : PDT X W e t := h.pt
theorem pdt_not (ha : PDT X W a t) : PDT X W (.UnaryOp .Not a pos) (dNot t) :=
  PTw (pt_not ha) fun σ H Q ⟨G, M, δ, Q', X', ok, sl, h, hq, hx⟩ => ⟨G, M, δ, _, X', ok, sl, h, fun d M1 H1 G1 h1 ok1 e1 => hq _ _ _ _ h1 ok1 e1, hx⟩
theorem pd_one {op} (h : PD X W a ta) : PD X W (.BoolOp op [a] pos) ta := pe_one h
theorem pd_and (ha : PD X W a ta) (hb : PD X W (.BoolOp .And (b :: rest) pos) tb) : PD X W (.BoolOp .And (a :: b :: rest) pos) (dAndV ta tb) :=
  PEw (pe_and ha hb) fun σ H Q ⟨G, M, δ, Q', X', ok, sl, h, hq, hx⟩ => ⟨G, M, δ, _, X', ok, sl, h, fun d M1 v H1 G1 h1 ok1 e1 r1 => by
    obtain ⟨k, ek, h2⟩ := asB_of h1 r1
    refine ⟨k, ek, ?_⟩
    cases k with
    | true => rw [if_pos rfl]; exact ⟨G1, M1, δ, _, X', ok1, sl.mono e1, h2, fun d2 M2 v2 H2 G2 h2 ok2 e2 r2 => hq d2 M2 v2 H2 G2 h2 ok2 (e1.trans e2) r2, hx.mono e1⟩
    | false => rw [if_neg Bool.false_ne_true]; exact hq _ _ _ _ _ h2 ok1 e1 (.bl _), hx⟩
theorem pd_or (ha : PD X W a ta) (hb : PD X W (.BoolOp .Or (b :: rest) pos) tb) : PD X W (.BoolOp .Or (a :: b :: rest) pos) (dOrV ta tb) :=
  PEw (pe_or ha hb) fun σ H Q ⟨G, M, δ, Q', X', ok, sl, h, hq, hx⟩ => ⟨G, M, δ, _, X', ok, sl, h, fun d M1 v H1 G1 h1 ok1 e1 r1 => by
    obtain ⟨k, ek, h2⟩ := asB_of h1 r1
    refine ⟨k, ek, ?_⟩
    cases k with
    | false => rw [if_neg Bool.false_ne_true]; exact ⟨G1, M1, δ, _, X', ok1, sl.mono e1, h2, fun d2 M2 v2 H2 G2 h2 ok2 e2 r2 => hq d2 M2 v2 H2 G2 h2 ok2 (e1.trans e2) r2, hx.mono e1⟩
    | true => rw [if_pos rfl]; exact hq _ _ _ _ _ h2 ok1 e1 (.bl _), hx⟩
theorem pd_not (ha : PD X W a ta) : PD X W (.UnaryOp .Not a pos) (dNotV ta) :=
  PEw (pe_not ha) fun σ H Q ⟨G, M, δ, Q', X', ok, sl, h, hq, hx⟩ => ⟨G, M, δ, _, X', ok, sl, h, fun d M1 v H1 G1 h1 ok1 e1 r1 => by
    obtain ⟨k, ek, h2⟩ := asB_of h1 r1
    exact ⟨k, ek, hq _ _ _ _ _ h2 ok1 e1 (.bl _)⟩, hx⟩
theorem pd_if (hc : PDT X W c tt) (ha : PD X W a ta) (hb : PD X W b tb) : PD X W (.IfExp c a b pos) (dIf tt ta tb) :=
  PEw (pe_ifExp hc ha hb) fun σ H Q ⟨G, M, δ, Q', X', ok, sl, h, hq, hx⟩ => ⟨G, M, δ, _, X', ok, sl, h, fun d M1 H1 G1 h1 ok1 e1 => by
    cases d with
    | true => rw [if_pos rfl]; exact ⟨G1, M1, δ, _, X', ok1, sl.mono e1, h1, fun d2 M2 v2 H2 G2 h2 ok2 e2 r2 => hq d2 M2 v2 H2 G2 h2 ok2 (e1.trans e2) r2, hx.mono e1⟩
    | false => rw [if_neg Bool.false_ne_true]; exact ⟨G1, M1, δ, _, X', ok1, sl.mono e1, h1, fun d2 M2 v2 H2 G2 h2 ok2 e2 r2 => hq d2 M2 v2 H2 G2 h2 ok2 (e1.trans e2) r2, hx.mono e1⟩, hx⟩
end
end DL

/-! The data layer: displays, subscripts, slices, built-ins, comprehensions -/
namespace DL
open PySem PySem.Spec PyProof.Rows L2

/-! ### arguments, displays -/
def dNil : DA := fun _ M Q _ => Q [] M
def dCons (t : DE) (u : DA) : DA := fun δ M Q X => t δ M (fun d M1 => u δ M1 (fun ds M2 => Q (d :: ds) M2) X) X
def few : Nat → List D → Prop
  | _, [] => True
  | 0, _ :: _ => False
  | n + 1, _ :: r => few n r
theorem few_le : ∀ {n : Nat} {ds : List D}, few n ds → ds.length ≤ n
  | _, [], _ => Nat.zero_le _
  | 0, _ :: _, h => h.elim
  | n + 1, _ :: r, h => Nat.succ_le_succ (few_le (ds := r) h)
theorem few_line {n : Nat} {ds : List D} (h : few n ds) (hn : n ≤ 1000 := by decide) : ds.length ≤ sizeLine := Nat.le_trans (few_le h) (Nat.le_of_lt (small1000 hn))
def dLst (t : DA) : DE := fun δ M Q X => t δ M (fun ds M1 => few 99 ds ∧ Q (.lst ds) M1) X
def dTup (t : DA) : DE := fun δ M Q X => t δ M (fun ds M1 => few 99 ds ∧ Q (.tup ds) M1) X
/-- a list that may change -/
def dLstM (t : DA) : DE := fun δ M Q X => t δ M (fun ds M1 => few 99 ds ∧ ∀ p, M1 p = none → Q (.obj p) (M1.set p (.lst ds))) X
/-- what an expression made is not changed any more -/
def frz (d : D) (M : Mem) (Q : QD) : Prop := match res M d, d with
  | .lst ds, .obj a => Q (.lst ds) (M.del a)
  | .dic kvs, .obj a => Q (.dic kvs) (M.del a)
  | _, .obj _ => False
  | _, d => Q d M
def dFrz (t : DE) : DE := fun δ M Q X => t δ M (fun d M1 => frz d M1 Q) X
section
variable {X : Cx} {W : WX} {a b c e : Expr} {es : List Expr} {ta tb te : DE} {t : DA} {pos : Pos} {K : PySem.W.Frag}
theorem pda_nil : PDA X W [] dNil := PAw pa_nil fun σ H Q ⟨G, M, δ, Q', X', ok, sl, h, hq, hx⟩ => hq _ M _ H G h ok (Same.refl _) .nil
theorem pda_cons (ha : PD X W e te) (hr : PDA X W es t) (hs : starEach (e :: es) X.env = (false, eval e X.env) :: starEach es X.env := by rfl) : PDA X W (e :: es) (dCons te t) :=
  PAw (pa_cons ha hr hs) fun σ H Q ⟨G, M, δ, Q', X', ok, sl, h, hq, hx⟩ => ⟨G, M, δ, _, X', ok, sl, h, fun d M1 v H1 G1 h1 ok1 e1 r1 => ⟨G1, M1, δ, _, X', ok1, sl.mono e1, h1, fun ds M2 vs H2 G2 h2 ok2 e2 r2 =>
    hq _ M2 _ H2 G2 h2 ok2 (e1.trans e2) (.cons (r1.mono e2) r2), hx.mono e1⟩, hx⟩
theorem pd_tup {x1} (h : PDA X W es t) : PD X W (.Tuple es x1 pos) (dTup t) :=
  PEw (pe_tup h) fun σ H Q ⟨G, M, δ, Q', X', ok, sl, h, hq, hx⟩ => ⟨G, M, δ, _, X', ok, sl, h, fun ds M1 vs H1 G1 h1 ok1 e1 r1 =>
    ⟨by rw [r1.len]; exact few_line h1.1, fun p hp => have gp := ok1.gnone hp; hq _ _ _ _ _ h1.2 (ok1.frozen hp) (e1.trans (same_upd gp)) (.tup upd_same (r1.mono (same_upd gp)) (few_line h1.1))⟩, hx⟩
theorem pd_lst (h : PDA X W es t) : PD X W (.List es pos) (dLst t) :=
  PEw (pe_lst h) fun σ H Q ⟨G, M, δ, Q', X', ok, sl, h, hq, hx⟩ => ⟨G, M, δ, _, X', ok, sl, h, fun ds M1 vs H1 G1 h1 ok1 e1 r1 =>
    ⟨by rw [r1.len]; exact few_line h1.1, fun p hp => have gp := ok1.gnone hp; hq _ _ _ _ _ h1.2 (ok1.frozen hp) (e1.trans (same_upd gp)) (.lst upd_same (r1.mono (same_upd gp)) (few_line h1.1))⟩, hx⟩
theorem pd_lstM (h : PDA X W es t) : PD X W (.List es pos) (dLstM t) :=
  PEw (pe_lst h) fun σ H Q ⟨G, M, δ, Q', X', ok, sl, h, hq, hx⟩ => ⟨G, M, δ, _, X', ok, sl, h, fun ds M1 vs H1 G1 h1 ok1 e1 r1 =>
    ⟨by rw [r1.len]; exact few_line h1.1, fun p hp => hq _ _ _ _ _ (h1.2 p (ok1.mnone hp)) (ok1.write (ok1.gnone hp) ⟨vs, upd_same, r1, few_line h1.1⟩) e1 (.obj p)⟩, hx⟩
theorem frz_of {G H : Hp} {M : Mem} {d : D} {v : V} {Q : QD} (ok : Ok K H G M) (r : Rep K G v d) (h : frz d M Q) : ∃ d' M' G', Q d' M' ∧ Ok K H G' M' ∧ Same G G' ∧ Rep K G' v d' := by
  unfold frz at h
  split at h
  · rename_i ds a e
    have m := Rep.obj_lst ok e
    obtain ⟨g, vs, h1, q, z⟩ := ok.mem _ _ m
    cases r
    exact ⟨_, _, _, h, ok.freeze m h1, same_upd g, .lst upd_same (q.mono (same_upd g)) z⟩
  · rename_i ds a e
    have m := Rep.obj_dic ok e
    obtain ⟨g, kv, h1, k, q⟩ := ok.mem _ _ m
    cases r
    exact ⟨_, _, _, h, ok.freeze m h1, same_upd g, .dic upd_same k (q.mono (same_upd g))⟩
  · exact h.elim
  · exact ⟨_, _, _, h, ok, Same.refl _, r⟩
theorem pd_frz (h : PD X W e te) : PD X W e (dFrz te) :=
  PEw h fun σ H Q ⟨G, M, δ, Q', X', ok, sl, h, hq, hx⟩ => ⟨G, M, δ, _, X', ok, sl, h, fun d M1 v H1 G1 h1 ok1 e1 r1 => by
    obtain ⟨d', M', G', h2, ok2, e2, r2⟩ := frz_of ok1 r1 h1
    exact hq _ _ _ _ _ h2 ok2 (e1.trans e2) r2, hx⟩
end

/-! ### a dict written -/
def dPairs : List (Str × DE) → DS → Mem → (List (Str × D) → Mem → Prop) → XD → Prop
  | [], _, M, Q, _ => Q [] M
  | (k, t) :: r, δ, M, Q, X => t δ M (fun d M1 => dPairs r δ M1 (fun ps M2 => Q ((k, d) :: ps) M2) X) X
/-- a dict that may change -/
def dDisp (ts : List (Str × DE)) : DE := fun δ M Q X => ∀ p, M p = none → dPairs ts δ (M.set p (.dic [])) (fun kvs M1 => M1 p = some (.dic []) ∧ few 15 (kvs.map (·.2)) ∧ (kvs.map (·.1)).Nodup ∧ Q (.obj p) (M1.set p (.dic kvs))) X
def dDic0 : DE := fun _ M Q _ => Q (.dic []) M
structure PDPs (X : Cx) (W : WX) (pos : Pos) (keys : List (Option Expr)) (values : List Expr) (ts : List (Str × DE)) : Prop where
  run : PPs X pos keys values (ts.map fun p => (tC (.str p.1), up X.K W p.2))
theorem merge_nodup : ∀ {more kvs : List (Key × V)}, ((kvs ++ more).map (·.1)).Nodup → mergeK kvs more = kvs ++ more
  | [], kvs, _ => by rw [List.append_nil]; rfl
  | kv :: r, kvs, h => by
    have hn : valV kvs kv.1 = none := by
      cases e : valV kvs kv.1 with
      | none => rfl
      | some v =>
        unfold valV at e
        cases q : kvs.find? (fun x => decide (x.1 = kv.1)) with
        | none => rw [q] at e; cases e
        | some x =>
          have h1 := List.mem_of_find?_eq_some q
          have h2 := List.find?_some q
          have h2 : x.1 = kv.1 := of_decide_eq_true h2
          rw [List.map_append, List.map_cons] at h
          have := (List.nodup_append.mp h).2.2 x.1 (List.mem_map_of_mem h1) kv.1 List.mem_cons_self
          exact absurd h2 this
    unfold mergeK
    rw [List.foldl_cons, putK_new _ hn]
    have h' : (((kvs ++ [kv]) ++ r).map (·.1)).Nodup := by rw [List.append_assoc]; exact h
    have ih := merge_nodup (more := r) (kvs := kvs ++ [kv]) h'
    unfold mergeK at ih
    rw [show (kv.1, kv.2) = kv from rfl, ih, List.append_assoc]
    rfl
section
variable {X : Cx} {W : WX} {e : Expr} {te : DE} {pos : Pos} {K : PySem.W.Frag} {ks : List (Option Expr)} {vs : List Expr} {ts : List (Str × DE)}
theorem pdp_nil : PDPs X W pos [] [] [] := ⟨pps_nil⟩
theorem pdp_cons {k : Str} {j : Nat} {kp : Pos} (hv : PD X W e te) (hr : PDPs X W pos ks vs ts) : PDPs X W pos (some (.Constant (.str k) j kp) :: ks) (e :: vs) ((k, te) :: ts) := ⟨pps_cons pe_str hv hr.run⟩
theorem up_pairs : ∀ {ts : List (Str × DE)} {σ : L2.St} {H G : Hp} {M : Mem} {δ : DS} {Q : List (V × V) → Hp → Prop} {Q' : List (Str × D) → Mem → Prop} {X' : XD}, Ok K H G M → Slots K G σ δ → dPairs ts δ M Q' X' → WOk K W G X' →
    (∀ kvs M' ps H' G', Q' kvs M' → Ok K H' G' M' → Same G G' → ps.map (·.1) = kvs.map (fun p => V.str p.1) → RepL K G' (ps.map (·.2)) (kvs.map (·.2)) → Q ps H') → tPairs (ts.map fun p => (tC (.str p.1), up K W p.2)) σ H Q
  | [], σ, H, G, M, δ, Q, Q', X', ok, sl, h, hx, hq => hq [] M [] H G h ok (Same.refl _) rfl .nil
  | (k, t) :: r, σ, H, G, M, δ, Q, Q', X', ok, sl, h, hx, hq =>
    ⟨G, M, δ, _, X', ok, sl, h, fun d M1 v H1 G1 h1 ok1 e1 r1 => up_pairs (ts := r) ok1 (sl.mono e1) h1 (hx.mono e1) fun kvs M2 ps H2 G2 h2 ok2 e2 k2 r2 => hq _ M2 _ H2 G2 h2 ok2 (e1.trans e2) (by rw [List.map_cons, List.map_cons, k2]) (.cons (r1.mono e2) r2), hx⟩
theorem key_pairs : ∀ {ps : List (V × V)} {kvs : List (Str × D)}, ps.map (·.1) = kvs.map (fun p => V.str p.1) → ∃ kk : List (Key × V), ps = kk.map (fun kv => (kV kv.1, kv.2)) ∧ kk.map (·.1) = kvs.map (fun p => (Sum.inr p.1 : Key)) ∧ kk.map (·.2) = ps.map (·.2)
  | [], [], _ => ⟨[], rfl, rfl, rfl⟩
  | [], _ :: _, h => by cases h
  | _ :: _, [], h => by cases h
  | (a, b) :: r, (k, d) :: s, h => by
    simp only [List.map_cons, List.cons.injEq] at h
    obtain ⟨h1, h2⟩ := h
    subst h1
    obtain ⟨kk, e1, e2, e3⟩ := key_pairs h2
    exact ⟨(Sum.inr k, b) :: kk, by rw [List.map_cons, e1]; rfl, by rw [List.map_cons, e2]; rfl, by rw [List.map_cons, e3]; rfl⟩
theorem pd_disp (h : PDPs X W pos ks vs ts) (hall : ks.all (·.isSome) = true := by rfl) (hl : ks.length = vs.length := by rfl) (h0 : ks ≠ [] := by exact fun z => nomatch z) (h15 : ks.length ≤ 15 := by decide) : PD X W (.Dict ks vs pos) (dDisp ts) :=
  PEw (pe_disp h.run hall hl h0 h15) fun σ H Q ⟨G, M, δ, Q', X', ok, sl, h, hq, hx⟩ p hp => by
    have gp := ok.gnone hp
    refine up_pairs (ok.write (o := .dK []) (m := .dic []) gp ⟨[], upd_same, rfl, .nil⟩) sl (h p (ok.mnone hp)) hx fun kvs M' ps H' G' h1 ok1 e1 k1 r1 => ?_
    obtain ⟨m, f, nd, h1⟩ := h1
    obtain ⟨g1, kv0, e2, e3, _⟩ := ok1.mem _ _ m
    have z : kv0 = [] := by cases kv0 with
      | nil => rfl
      | cons _ _ => cases e3
    subst z
    obtain ⟨kk, f1, f2, f3⟩ := key_pairs k1
    have nd' : ((([] : List (Key × V)) ++ kk).map (fun kv : Key × V => kv.1)).Nodup := by
      rw [List.nil_append, f2]
      rw [show kvs.map (fun p : Str × D => (Sum.inr p.1 : Key)) = (kvs.map (fun p : Str × D => p.1)).map (fun x : Str => (Sum.inr x : Key)) by rw [List.map_map]; rfl]
      exact List.Pairwise.map _ (fun (a b : Str) (hab : a ≠ b) (e : (Sum.inr a : Key) = Sum.inr b) => hab (Sum.inr.inj e)) nd
    have me := merge_nodup (kvs := []) nd'
    show H' p = some (.dK []) ∧ ∃ kvs : List (Key × V), ps = kvs.map (fun kv => (kV kv.1, kv.2)) ∧ kvs.length ≤ 15 ∧ Q (.ref p) (upd H' p (.dK (mergeK [] kvs)))
    refine ⟨e2, kk, f1, ?_, ?_⟩
    · have := few_le f
      rw [List.length_map] at this
      have l2 := congrArg List.length f2
      rw [List.length_map, List.length_map] at l2
      omega
    · rw [me, List.nil_append]
      exact hq _ _ _ _ _ h1 (ok1.write (m := .dic kvs) g1 ⟨kk, upd_same, f2, by rw [f3]; exact r1⟩) e1 (.obj p)
theorem pd_dic0 : PD X W (.Dict [] [] pos) dDic0 :=
  PEw pe_dnewK fun σ H Q ⟨G, M, δ, Q', X', ok, sl, h, hq, hx⟩ p hp => hq _ _ _ _ _ h (ok.frozen hp) (same_upd (ok.gnone hp)) (.dic upd_same rfl .nil)
end

/-! ### subscripts -/
def nth {α : Type} : List α → Int → Option α
  | xs, .ofNat n => xs[n]?
  | xs, .negSucc n => if n + 1 ≤ xs.length then xs[xs.length - (n + 1)]? else none
theorem nth_at {α : Type} {xs : List α} {i : Int} {v : α} (h : nth xs i = some v) : atI xs i = some v := by
  match i, h with
  | .ofNat n, h => exact atI_nat h
  | .negSucc n, h =>
    have h : (if n + 1 ≤ xs.length then xs[xs.length - (n + 1)]? else none) = some v := h
    by_cases hl : n + 1 ≤ xs.length
    · rw [if_pos hl] at h
      have e : (Int.negSucc n) + (xs.length : Int) = ((xs.length - (n + 1) : Nat) : Int) := by omega
      unfold atI ixN
      rw [if_neg (by omega), if_pos (by omega), e]
      exact h
    · rw [if_neg hl] at h; cases h
theorem nth_map {α β : Type} {g : α → β} {xs : List α} {i : Int} {v : α} (h : nth xs i = some v) : nth (xs.map g) i = some (g v) := by
  match i, h with
  | .ofNat n, h =>
    show (xs.map g)[n]? = _
    rw [List.getElem?_map, show xs[n]? = some v from h]; rfl
  | .negSucc n, h =>
    have h : (if n + 1 ≤ xs.length then xs[xs.length - (n + 1)]? else none) = some v := h
    show (if n + 1 ≤ (xs.map g).length then (xs.map g)[(xs.map g).length - (n + 1)]? else none) = _
    rw [List.length_map]
    by_cases hl : n + 1 ≤ xs.length
    · rw [if_pos hl] at h ⊢
      rw [List.getElem?_map, h]; rfl
    · rw [if_neg hl] at h; cases h
theorem RepL.nth {K : PySem.W.Frag} {G : Hp} {vs : List V} {ds : List D} {i : Int} {d : D} (q : RepL K G vs ds) (h : DL.nth ds i = some d) : ∃ v, DL.nth vs i = some v ∧ Rep K G v d := by
  match i, h with
  | .ofNat n, h => exact q.at h
  | .negSucc n, h =>
    have h : (if n + 1 ≤ ds.length then ds[ds.length - (n + 1)]? else none) = some d := h
    have hl := q.len
    show ∃ v, (if n + 1 ≤ vs.length then vs[vs.length - (n + 1)]? else none) = some v ∧ _
    rw [hl]
    by_cases hn : n + 1 ≤ ds.length
    · rw [if_pos hn] at h ⊢
      exact q.at h
    · rw [if_neg hn] at h; cases h
theorem nth_nat {α : Type} (xs : List α) (n : Nat) : nth xs (n : Int) = xs[n]? := rfl
theorem nth_toNat {α : Type} (xs : List α) {i : Int} (h : 0 ≤ i) : nth xs i = xs[i.toNat]? := by
  obtain ⟨n, rfl⟩ := Int.eq_ofNat_of_zero_le h
  rfl
def look : List (Str × D) → Str → Option D
  | [], _ => none
  | (k, d) :: r, x => if k = x then some d else look r x
theorem look_val {K : PySem.W.Frag} {G : Hp} {x : Str} {d : D} : ∀ {ds : List (Str × D)} {kv : List (Key × V)}, kv.map (·.1) = ds.map (fun p => (Sum.inr p.1 : Key)) → RepL K G (kv.map (·.2)) (ds.map (·.2)) → look ds x = some d → ∃ v, valV kv (Sum.inr x) = some v ∧ Rep K G v d
  | [], _, _, _, h => by cases h
  | (k, d') :: r, [], h, _, _ => by cases h
  | (k, d') :: r, (k', v') :: r', h1, h2, h3 => by
    simp only [List.map_cons, List.cons.injEq] at h1
    cases h2 with
    | cons q t =>
      unfold look at h3
      by_cases e : k = x
      · rw [if_pos e] at h3; cases h3
        exact ⟨v', valV_pos (by rw [h1.1, e]), q⟩
      · rw [if_neg e] at h3
        obtain ⟨v, e1, e2⟩ := look_val h1.2 t h3
        exact ⟨v, by rw [valV_neg (by rw [h1.1]; exact fun z => e (Sum.inr.inj z))]; exact e1, e2⟩
def oIx (x y : D) (M : Mem) (Q : QD) : Prop := match res M x, y with
  | .lst ds, .int i => el (nth ds i) fun d => Q d M
  | .tup ds, .int i => el (nth ds i) fun d => Q d M
  | .scr ns, .int i => el (nth ns i) fun n => Q (.int n) M
  | .str z, .int i => el (nth z.cps.toList i) fun c => Q (.str ⟨#[c]⟩) M
  | .dic kvs, .str k => el (look kvs k) fun d => Q d M
  | _, _ => False
section
variable {X : Cx} {W : WX} {a b e : Expr} {ta tb te : DE} {pos : Pos} {K : PySem.W.Frag}
theorem strOk_iff {z : Str} : strOk z = true ↔ (∀ c ∈ z.cps.toList, c < 0x110000) ∧ z.length ≤ sizeLine := by
  have e : PyData.strOk z = true ↔ ∀ c ∈ z.cps.toList, c < 0x110000 := by
    unfold PyData.strOk
    rw [← Array.all_toList, List.all_eq_true]
    exact ⟨fun h c hc => of_decide_eq_true (h c hc), fun h c hc => decide_eq_true (h c hc)⟩
  exact ⟨fun h => ⟨e.mp (strOk_snd h), strOk_len h⟩, fun h => strOk_mk (e.mpr h.1) h.2⟩
theorem strOk_one {z : Str} {c : Nat} (h : strOk z = true) (m : c ∈ z.cps.toList) : strOk ⟨#[c]⟩ = true := by
  refine strOk_iff.mpr ⟨fun c' hc => ?_, ?_⟩
  · have : c' = c := by simpa using hc
    subst this
    exact (strOk_iff.mp h).1 c' m
  · show 1 ≤ sizeLine
    rw [sizeLine_eq]; decide
def rIxD : R2 := fun x y H Q => ∃ a v, x = .ref a ∧ DGet H a y (some v) ∧ Q v H
theorem ix_dict (hu : X.A.units + 1 < cLine) : IxR X rIxD := by
  intro value slice pins s σ H x y v u Q I rx ry h hs
  obtain ⟨a, z, rfl, g, q⟩ := h
  cases rx
  exact tail_any (dict_typeIs I g) PySem.F.slot_dict_getitem.lookup (d_getItem hu I g ry fun w' s3 I3 rw' => ⟨z, H, I3, rw', q⟩) hs
def rIxA (K : PySem.W.Frag) : R2 := fun x y H Q => rIx K x y H Q ∨ rIxD x y H Q
theorem l_ix : LOp K (rIxA K) oIx := by
  intro x y H G M dx dy Q Q' ok rx ry h hq
  unfold oIx at h
  split at h
  · rename_i ds i e
    obtain ⟨d, e1, h⟩ := el_of h
    obtain ⟨a, vs, f, h1, q, z⟩ := rx.lstOf ok e
    cases ry
    obtain ⟨v, e2, r⟩ := q.nth e1
    exact .inl (.inl ⟨a, vs, i, v, f, rfl, SqL.of h1, nth_at e2, hq _ _ _ _ _ h ok (Same.refl _) r⟩)
  · rename_i ds i e
    obtain ⟨d, e1, h⟩ := el_of h
    obtain ⟨a, vs, f, h1, q, z⟩ := rx.tupOf ok e
    cases ry
    obtain ⟨v, e2, r⟩ := q.nth e1
    exact .inl (.inr (.inl ⟨a, vs, i, v, f, rfl, SqT.of h1, nth_at e2, hq _ _ _ _ _ h ok (Same.refl _) r⟩))
  · rename_i ns i e
    obtain ⟨n, e1, h⟩ := el_of h
    obtain ⟨a, f, h1⟩ := rx.scrOf ok e
    cases ry
    exact .inl (.inl ⟨a, _, i, .int n, f, rfl, h1, nth_at (nth_map e1), hq _ _ _ _ _ h ok (Same.refl _) (.int _)⟩)
  · rename_i z i e
    obtain ⟨c, e1, h⟩ := el_of h
    obtain ⟨f, k⟩ := rx.strOf e
    have hz := strOk_len k
    cases ry
    obtain ⟨j, f1, f2, _⟩ := atI_get (nth_at e1)
    exact .inl (.inr (.inr ⟨z, i, c, f, rfl, hz, nth_at e1, hq _ _ _ _ _ h ok (Same.refl _) (.str _ (strOk_one k (List.mem_of_getElem? f2)))⟩))
  · rename_i kvs k e
    obtain ⟨d, e1, h⟩ := el_of h
    obtain ⟨a, kv, f, h1, k1, q⟩ := rx.dicOf ok e
    cases ry
    obtain ⟨v, e2, r⟩ := look_val k1 q e1
    exact .inr ⟨a, v, f, .inl ⟨kv, .inr k, .inl h1, rfl, e2.symm⟩, hq _ _ _ _ _ h ok (Same.refl _) r⟩
  · exact h.elim
theorem pd_ix (hu : X.A.units + 1 < cLine) (ha : PD X W a ta) (hb : PD X W b tb) (hs : PlainIx b := by exact fun _ _ => rfl) : PD X W (.Subscript a b pos) (dOp oIx ta tb) :=
  PEw (pe_ix (IxR.or ix_seq (ix_dict hu)) ha hb hs) fun _ _ _ h => up_op l_ix h
end

/-! ### slices -/
def dNoPart : DO := fun _ M Q _ => Q none M
def dPart (t : DE) : DO := fun δ M Q X => t δ M (fun d M1 => match d with | .int i => Q (some i) M1 | _ => False) X
def dcut {α : Type} (xs : List α) (lo hi : Option Int) : List α := (xs.drop (HT.sIx xs.length 0 lo)).take (HT.sIx xs.length xs.length hi - HT.sIx xs.length 0 lo)
def oSl (x : D) (lo hi : Option Int) (M : Mem) (Q : QD) : Prop := match res M x with
  | .lst ds => Q (.lst (dcut ds lo hi)) M
  | .tup ds => Q (.tup (dcut ds lo hi)) M
  | .str z => Q (.str (cutS z lo hi)) M
  | _ => False
def dSl (t : DE) (tl th : DO) : DE := fun δ M Q X => t δ M (fun x M1 => tl δ M1 (fun lo M2 => th δ M2 (fun hi M3 => oSl x lo hi M3 Q) X) X) X
section
variable {X : Cx} {W : WX} {e : Expr} {te : DE} {tl th : DO} {pos p2 : Pos} {K : PySem.W.Frag} {lo hi : Option Expr}
theorem pdo_none : PDO X W none dNoPart := ⟨fun pins s σ H Q I ⟨G, M, δ, Q', X', ok, sl, h, hq, hx⟩ => (po_none (X := X)).run pins s σ H Q I (hq none M H G h ok (Same.refl _))⟩
theorem pdo_some (h : PD X W e te) : PDO X W (some e) (dPart te) := ⟨fun pins s σ H Q I ⟨G, M, δ, Q', X', ok, sl, h', hq, hx⟩ => (po_some h).run pins s σ H Q I ⟨G, M, δ, _, X', ok, sl, h', fun d M1 v H1 G1 h1 ok1 e1 r1 => by
    cases r1 with
    | int i => exact ⟨_, rfl, hq _ _ _ _ h1 ok1 e1⟩
    | _ => exact h1.elim, hx⟩⟩
theorem strOk_cut {z : Str} {lo hi : Option Int} (h : strOk z = true) : strOk (cutS z lo hi) = true := by
  rw [strOk_iff] at h ⊢
  refine ⟨fun c hc => h.1 c (List.mem_of_mem_drop (List.mem_of_mem_take (by simpa [cutS] using hc))), Nat.le_trans (cutS_length z lo hi) h.2⟩
theorem RepL.cut {G : Hp} {vs : List V} {ds : List D} (r : RepL K G vs ds) (lo hi : Option Int) : RepL K G (cutV vs lo hi) (dcut ds lo hi) := by
  unfold cutV dcut
  rw [r.len]
  exact (r.drop _).take _
theorem dcut_len {α : Type} (xs : List α) (lo hi : Option Int) : (dcut xs lo hi).length ≤ xs.length := by
  unfold dcut
  rw [List.length_take, List.length_drop]
  omega
def rSlAll (K : PySem.W.Frag) : V → Option Int → Option Int → Hp → VK → Prop := fun x lo hi H Q => rSlL K x lo hi H Q ∨ (rSlA K x lo hi H Q ∨ rSlS x lo hi H Q)
theorem sl_all : SlR X (rSlAll X.K) := SlR.or sl_list (SlR.or sl_tupA sl_str)
theorem pd_slice (he : PD X W e te) (hl : PDO X W lo tl) (hh : PDO X W hi th) : PD X W (.Subscript e (.Slice lo hi none p2) pos) (dSl te tl th) :=
  PEw (pe_slice sl_all he hl hh) fun σ H Q ⟨G, M, δ, Q', X', ok, sl, h, hq, hx⟩ => ⟨G, M, δ, _, X', ok, sl, h, fun d M1 v H1 G1 h1 ok1 e1 r1 =>
    ⟨G1, M1, δ, _, X', ok1, sl.mono e1, h1, fun lo M2 H2 G2 h2 ok2 e2 => ⟨G2, M2, δ, _, X', ok2, (sl.mono e1).mono e2, h2, fun hi M3 H3 G3 h3 ok3 e3 => by
      have r3 := (r1.mono e2).mono e3
      unfold oSl at h3
      have ex := e1.trans (e2.trans e3)
      split at h3
      · rename_i ds e
        obtain ⟨a, vs, f, hH, q, z⟩ := r3.lstOf ok3 e
        refine .inl ⟨a, vs, f, SqL.of hH, fun p hp => ?_⟩
        have gp := ok3.gnone hp
        exact hq _ _ _ _ _ h3 (ok3.frozen hp) (ex.trans (same_upd gp)) (.lst upd_same ((q.cut lo hi).mono (same_upd gp)) (Nat.le_trans (dcut_len _ _ _) z))
      · rename_i ds e
        obtain ⟨a, vs, f, hH, q, z⟩ := r3.tupOf ok3 e
        refine .inr (.inl ⟨a, vs, f, SqT.of hH, fun hw => ?_, fun hw p hp => ?_⟩)
        · have ed := res_tup e
          subst ed
          subst f
          have hl := q.len
          rw [hl] at hw
          have : dcut ds lo hi = ds := by
            unfold dcut
            rw [hw.1, hw.2, List.drop_zero, Nat.sub_zero, List.take_length]
          rw [this] at h3
          exact hq _ _ _ _ _ h3 ok3 ex r3
        · have gp := ok3.gnone hp
          exact hq _ _ _ _ _ h3 (ok3.frozen hp) (ex.trans (same_upd gp)) (.tup upd_same ((q.cut lo hi).mono (same_upd gp)) (Nat.le_trans (dcut_len _ _ _) z))
      · rename_i z e
        obtain ⟨f, k⟩ := r3.strOf e
        exact .inr (.inr ⟨z, f, strOk_len k, hq _ _ _ _ _ h3 ok3 ex (.str _ (strOk_cut k))⟩)
      · exact h3.elim, hx.mono (e1.trans e2)⟩, hx.mono e1⟩, hx⟩
end
end DL

/-! The data layer: built-in calls, methods, what is walked, comprehensions -/
namespace DL
open PySem PySem.Spec PyProof.Rows L2

def dCall (o : List D → Mem → QD → Prop) (t : DA) : DE := fun δ M Q X => t δ M (fun ds M1 => o ds M1 Q) X
def LCall (K : PySem.W.Frag) (r : List V → Hp → VK → Prop) (o : List D → Mem → QD → Prop) : Prop := ∀ (vs : List V) (H G : Hp) (M : Mem) (ds : List D) (Q : VK) (Q' : QD), Ok K H G M → RepL K G vs ds → o ds M Q' →
  (∀ d M' v H' G', Q' d M' → Ok K H' G' M' → Same G G' → Rep K G' v d → Q v H') → r vs H Q
section
variable {X : Cx} {W : WX} {x : Str} {p pos : Pos} {e : Expr} {es : List Expr} {t : DA} {id T : String} {r : List V → Hp → VK → Prop} {o : List D → Mem → QD → Prop} {K : PySem.W.Frag}
theorem up_call (l : LCall K r o) {σ : L2.St} {H : Hp} {Q : VK} (h : up K W (dCall o t) σ H Q) : tCB r (upA K W t) σ H Q := by
  obtain ⟨G, M, δ, Q', X', ok, sl, h, hq, hx⟩ := h
  exact ⟨G, M, δ, _, X', ok, sl, h, fun ds M1 vs H1 G1 h1 ok1 e1 r1 => l vs H1 G1 M1 ds Q Q' ok1 r1 h1 fun d3 M3 v3 H3 G3 h3 ok3 e3 r3 => hq d3 M3 v3 H3 G3 h3 ok3 (e1.trans e3) r3, hx⟩
theorem pd_callB (hc : CallR X (.builtin id) r) (l : LCall X.K r o) (hg : Gl X x) (hm : X.mg x = none) (hv : bootBuiltins x = some (.builtin id)) (ha : PDA X W (e :: es) t) (hn : x ≠ "__name__" := by decide) (hdb : (x == ("__debug__" : Str)) = false := by decide)
    (he : starEach (e :: es) X.env = (false, eval e X.env) :: starEach es X.env := by rfl) (hpl : (backTo pos (starEach es X.env)).any (·.1) = false := by rfl) : PD X W (.Call (.Name x p) (e :: es) [] pos) (dCall o t) :=
  PEw (pe_callB hc hg hm hv ha hn hdb he hpl) fun _ _ _ h => up_call l h
theorem pd_callTy (hc : CallR X (.type T) r) (l : LCall X.K r o) (hg : Gl X x) (hm : X.mg x = none) (hv : bootBuiltins x = some (.type T)) (ha : PDA X W (e :: es) t) (hn : x ≠ "__name__" := by decide) (hdb : (x == ("__debug__" : Str)) = false := by decide)
    (he : starEach (e :: es) X.env = (false, eval e X.env) :: starEach es X.env := by rfl) (hpl : (backTo pos (starEach es X.env)).any (·.1) = false := by rfl) : PD X W (.Call (.Name x p) (e :: es) [] pos) (dCall o t) :=
  PEw (pe_callTy hc hg hm hv ha hn hdb he hpl) fun _ _ _ h => up_call l h
theorem pd_bltn {n : String} {pos : Pos} (hg : Gl X x) (hm : X.mg x = none) (hv : bootBuiltins x = some (.type n)) (hn : x ≠ "__name__" := by decide) (hd : (x == ("__debug__" : Str)) = false := by decide) : PD X W (.Name x pos) (dC (.ty n)) :=
  pd_c (pe_bltn (v := .ty n) hg hm hv rfl hn hd) fun _ => .ty n
theorem pd_cls {C : Addr} {pos : Pos} (hg : Gl X x) (hm : X.mg x = some (.ref C)) (hd : (x == ("__debug__" : Str)) = false := by decide) : PD X W (.Name x pos) (dC (.obj C)) := pd_glob (v := .ref C) hg hm rfl (fun _ => .obj C) hd
end

def on1 (F : D → Mem → QD → Prop) (ds : List D) (M : Mem) (Q : QD) : Prop := match ds with
  | [d] => F (res M d) M Q
  | _ => False
def on2 (F : D → D → Mem → QD → Prop) (ds : List D) (M : Mem) (Q : QD) : Prop := match ds with
  | [d, e] => F (res M d) (res M e) M Q
  | _ => False
def lenD (d : D) (M : Mem) (Q : QD) : Prop := match d with
  | .lst ds => Q (.int ds.length) M
  | .tup ds => Q (.int ds.length) M
  | .scr ns => Q (.int ns.length) M
  | .str z => Q (.int z.length) M
  | _ => False
def intD (d : D) (M : Mem) (Q : QD) : Prop := match d with
  | .int i => Q (.int i) M
  | .bl k => Q (.int (cond k 1 0)) M
  | _ => False
def strD (d : D) (M : Mem) (Q : QD) : Prop := match d with
  | .int i => 0 ≤ i ∧ i < 1000000000 ∧ Q (.str (toString i)) M
  | _ => False
def int2 (g : Int → Int → Int) (d e : D) (M : Mem) (Q : QD) : Prop := match d, e with
  | .int i, .int j => Q (.int (g i j)) M
  | _, _ => False
def sumD (d : D) (M : Mem) (Q : QD) : Prop := ∃ ns : List Int, d = .lst (ns.map .int) ∧ Q (.int ns.sum) M
def maxD (d : D) (M : Mem) (Q : QD) : Prop := ∃ ns : List Int, d = .lst (ns.map .int) ∧ 0 < ns.length ∧ ∀ m, m ∈ ns → (∀ y, y ∈ ns → y ≤ m) → Q (.int m) M
/-- list(x), a list that may change -/
def listM (d : D) (M : Mem) (Q : QD) : Prop := match d with
  | .lst ds => ∀ p, M p = none → Q (.obj p) (M.set p (.lst ds))
  | .tup ds => ∀ p, M p = none → Q (.obj p) (M.set p (.lst ds))
  | _ => False
def listF (d : D) (M : Mem) (Q : QD) : Prop := match d with
  | .lst ds => Q (.lst ds) M
  | .tup ds => Q (.lst ds) M
  | _ => False
def dictM (d : D) (M : Mem) (Q : QD) : Prop := match d with
  | .dic kvs => ∀ p, M p = none → Q (.obj p) (M.set p (.dic kvs))
  | _ => False
/-- isinstance of data -/
def isB (n : String) (d : D) : Option Bool := match d with
  | .non => kitB "NoneType" n
  | .bl _ => kitB "bool" n
  | .int _ => kitB "int" n
  | .str _ => kitB "str" n
  | .lst _ => kitB "list" n
  | .tup _ => kitB "tuple" n
  | .dic _ => kitB "dict" n
  | _ => none
def isiD (d e : D) (M : Mem) (Q : QD) : Prop := match e with
  | .ty n => el (isB n d) fun b => Q (.bl b) M
  | _ => False

section
variable {K : PySem.W.Frag} {X : Cx}
theorem l_on1 {F : D → Mem → QD → Prop} {r : V → Hp → VK → Prop} (h : ∀ (v : V) (H G : Hp) (M : Mem) (d d' : D) (Q : VK) (Q' : QD), Ok K H G M → Rep K G v d → res M d = d' → F d' M Q' →
    (∀ d M' v H' G', Q' d M' → Ok K H' G' M' → Same G G' → Rep K G' v d → Q v H') → r v H Q) : LCall K (fun vs H Q => ∃ v, vs = [v] ∧ r v H Q) (on1 F) := by
  intro vs H G M ds Q Q' ok rl ho hq
  unfold on1 at ho
  split at ho
  · cases rl with
    | cons a b =>
      cases b
      exact ⟨_, rfl, h _ _ _ _ _ _ _ _ ok a rfl ho hq⟩
  · exact ho.elim
theorem l_on2 {F : D → D → Mem → QD → Prop} {r : V → V → Hp → VK → Prop} (h : ∀ (v w : V) (H G : Hp) (M : Mem) (d d' e e' : D) (Q : VK) (Q' : QD), Ok K H G M → Rep K G v d → Rep K G w e → res M d = d' → res M e = e' → F d' e' M Q' →
    (∀ d M' v H' G', Q' d M' → Ok K H' G' M' → Same G G' → Rep K G' v d → Q v H') → r v w H Q) : LCall K (fun vs H Q => ∃ v w, vs = [v, w] ∧ r v w H Q) (on2 F) := by
  intro vs H G M ds Q Q' ok rl ho hq
  unfold on2 at ho
  split at ho
  · cases rl with
    | cons a b =>
      cases b with
      | cons b c =>
        cases c
        exact ⟨_, _, rfl, h _ _ _ _ _ _ _ _ _ _ _ ok a b rfl rfl ho hq⟩
  · exact ho.elim
theorem LCall.imp {r r' : List V → Hp → VK → Prop} {o : List D → Mem → QD → Prop} (l : LCall K r o) (h : ∀ vs H Q, r vs H Q → r' vs H Q) : LCall K r' o := fun vs H G M ds Q Q' ok rl ho hq => h _ _ _ (l vs H G M ds Q Q' ok rl ho hq)
theorem l_len : LCall K (fun xs H Q => ∃ x n, xs = [x] ∧ LenV K x H n ∧ Q (.int n) H) (on1 lenD) := by
  refine LCall.imp (l_on1 (r := fun x H Q => ∃ n, LenV K x H n ∧ Q (.int n) H) fun v H G M d d' Q Q' ok rv e h hq => ?_) fun vs H Q ⟨v, e, n, h⟩ => ⟨v, n, e, h⟩
  unfold lenD at h
  split at h
  · obtain ⟨a, vs, f, h1, q, z⟩ := rv.lstOf ok e
    subst f
    exact ⟨_, .inl ⟨_, SqL.of h1, q.len.symm⟩, hq _ _ _ _ _ h ok (Same.refl _) (.int _)⟩
  · obtain ⟨a, vs, f, h1, q, z⟩ := rv.tupOf ok e
    subst f
    exact ⟨_, .inr ⟨_, SqT.of h1, q.len.symm⟩, hq _ _ _ _ _ h ok (Same.refl _) (.int _)⟩
  · obtain ⟨a, f, h1⟩ := rv.scrOf ok e
    subst f
    exact ⟨_, .inl ⟨_, h1, by rw [List.length_map]⟩, hq _ _ _ _ _ h ok (Same.refl _) (.int _)⟩
  · obtain ⟨f, k⟩ := rv.strOf e
    subst f
    exact ⟨_, ⟨strOk_len k, rfl⟩, hq _ _ _ _ _ h ok (Same.refl _) (.int _)⟩
  · exact h.elim
theorem l_int1 : LCall K (fun xs H Q => (∃ i, xs = [.int i] ∧ Q (.int i) H) ∨ ∃ k, xs = [.bl k] ∧ Q (.int (if k then 1 else 0)) H) (on1 intD) := by
  refine LCall.imp (l_on1 (r := fun x H Q => (∃ i, x = .int i ∧ Q (.int i) H) ∨ ∃ k, x = .bl k ∧ Q (.int (if k then 1 else 0)) H) fun v H G M d d' Q Q' ok rv e h hq => ?_) fun vs H Q ⟨v, e, h⟩ => by
    subst e
    rcases h with ⟨i, e, h⟩ | ⟨i, e, h⟩
    · exact .inl ⟨i, by rw [e], h⟩
    · exact .inr ⟨i, by rw [e], h⟩
  unfold intD at h
  split at h
  · exact .inl ⟨_, rv.intOf e, hq _ _ _ _ _ h ok (Same.refl _) (.int _)⟩
  · rename_i k
    refine .inr ⟨k, rv.blOf e, ?_⟩
    have : (if k = true then (1 : Int) else 0) = cond k 1 0 := by cases k <;> rfl
    rw [this]
    exact hq _ _ _ _ _ h ok (Same.refl _) (.int _)
  · exact h.elim
theorem strOk_num {i : Int} (h0 : 0 ≤ i) (h1 : i < 1000000000) : strOk (toString i : String) = true := by
  obtain ⟨n, rfl⟩ := Int.eq_ofNat_of_zero_le h0
  have e := TL.tl_num n
  have e : (Str.ofString (toString ((n : Nat) : Int))).cps.toList = TL.numL n := e
  have hl := TL.numL_len (n := n) (k := 9) (by decide) (by omega)
  refine strOk_iff.mpr ⟨fun c hc => ?_, ?_⟩
  · rw [e] at hc
    have := TL.numL_digits n c hc
    omega
  · have : (Str.ofString (toString ((n : Nat) : Int))).length = (TL.numL n).length := by rw [← e, Array.length_toList]; rfl
    rw [this, sizeLine_eq]
    omega
theorem log_small {i : Int} (h0 : 0 ≤ i) (h1 : i < 1000000000) : i.natAbs.log2 < 1920 := by
  by_cases hz : i.natAbs = 0
  · rw [hz]; decide
  · refine (Nat.log2_lt hz).mpr (Nat.lt_of_lt_of_le (show i.natAbs < 2 ^ 30 by omega) (Nat.pow_le_pow_right (by decide) (by decide)))
theorem l_str1 : LCall K (fun xs H Q => ∃ i, xs = [.int i] ∧ i.natAbs.log2 < 1920 ∧ Q (.str (toString i)) H) (on1 strD) := by
  refine LCall.imp (l_on1 (r := fun x H Q => ∃ i : Int, x = .int i ∧ i.natAbs.log2 < 1920 ∧ Q (.str (toString i)) H) fun v H G M d d' Q Q' ok rv e h hq => ?_) fun vs H Q ⟨v, e, i, f, h⟩ => ⟨i, by rw [e, f], h⟩
  unfold strD at h
  split at h
  · obtain ⟨h0, h1, h⟩ := h
    exact ⟨_, rv.intOf e, log_small h0 h1, hq _ _ _ _ _ h ok (Same.refl _) (.str _ (strOk_num h0 h1))⟩
  · exact h.elim
theorem l_int2 {g : Int → Int → Int} : LCall K (fun xs H Q => ∃ i j, xs = [.int i, .int j] ∧ Q (.int (g i j)) H) (on2 (int2 g)) := by
  refine LCall.imp (l_on2 (r := fun x y H Q => ∃ i j, x = .int i ∧ y = .int j ∧ Q (.int (g i j)) H) fun v w H G M d d' d2 d2' Q Q' ok rv rw' e e2 h hq => ?_) fun vs H Q ⟨v, w, e, i, j, f, f2, h⟩ => ⟨i, j, by rw [e, f, f2], h⟩
  unfold int2 at h
  split at h
  · exact ⟨_, _, rv.intOf e, rw'.intOf e2, hq _ _ _ _ _ h ok (Same.refl _) (.int _)⟩
  · exact h.elim
theorem reps_ints {G : Hp} : ∀ {ns : List Int} {vs : List V}, RepL K G vs (ns.map D.int) → vs = ns.map V.int
  | [], _, .nil => rfl
  | i :: r, _, .cons (.int _) t => by rw [List.map_cons, ← reps_ints t]
theorem l_sum : LCall K (rSum K) (on1 sumD) := by
  refine LCall.imp (l_on1 (r := fun x H Q => ∃ (a : Addr) (ns : List Int), x = .ref a ∧ SqL K H a (ns.map V.int) ∧ Q (.int ns.sum) H) fun v H G M d d' Q Q' ok rv e h hq => ?_) fun vs H Q ⟨v, e, a, ns, f, h⟩ => ⟨a, ns, by rw [e, f], h⟩
  obtain ⟨ns, f, h⟩ := h
  subst f
  obtain ⟨a, vs, f, h1, q, z⟩ := rv.lstOf ok e
  have := reps_ints q
  subst this
  exact ⟨a, ns, f, SqL.of h1, hq _ _ _ _ _ h ok (Same.refl _) (.int _)⟩
theorem l_max : LCall K (rMax K) (on1 maxD) := by
  refine LCall.imp (l_on1 (r := fun x H Q => ∃ (a : Addr) (ns : List Int), x = .ref a ∧ SqL K H a (ns.map V.int) ∧ 0 < ns.length ∧ ∀ m, m ∈ ns → (∀ y, y ∈ ns → y ≤ m) → Q (.int m) H) fun v H G M d d' Q Q' ok rv e h hq => ?_) fun vs H Q ⟨v, e, a, ns, f, h⟩ => ⟨a, ns, by rw [e, f], h⟩
  obtain ⟨ns, f, hz, h⟩ := h
  subst f
  obtain ⟨a, vs, f, h1, q, z⟩ := rv.lstOf ok e
  have := reps_ints q
  subst this
  exact ⟨a, ns, f, SqL.of h1, hz, fun m h1 h2 => hq _ _ _ _ _ (h m h1 h2) ok (Same.refl _) (.int _)⟩
abbrev rListOf (K : PySem.W.Frag) : List V → Hp → VK → Prop := fun xs H Q => ∃ p ys, xs = [.ref p] ∧ (SqL K H p ys ∨ SqT K H p ys) ∧ ∀ l, H l = none → Q (.ref l) (upd H l (.lst ys))
theorem l_listM : LCall K (rListOf K) (on1 listM) := by
  refine LCall.imp (l_on1 (r := fun x H Q => ∃ p ys, x = .ref p ∧ (SqL K H p ys ∨ SqT K H p ys) ∧ ∀ l, H l = none → Q (.ref l) (upd H l (.lst ys))) fun v H G M d d' Q Q' ok rv e h hq => ?_) fun vs H Q ⟨v, e, a, ns, f, h⟩ => ⟨a, ns, by rw [e, f], h⟩
  unfold listM at h
  split at h
  · obtain ⟨a, vs, f, h1, q, z⟩ := rv.lstOf ok e
    exact ⟨a, vs, f, .inl (SqL.of h1), fun l hl => hq _ _ _ _ _ (h l (ok.mnone hl)) (ok.write (m := .lst _) (ok.gnone hl) ⟨vs, upd_same, q, z⟩) (Same.refl _) (.obj l)⟩
  · obtain ⟨a, vs, f, h1, q, z⟩ := rv.tupOf ok e
    exact ⟨a, vs, f, .inr (SqT.of h1), fun l hl => hq _ _ _ _ _ (h l (ok.mnone hl)) (ok.write (m := .lst _) (ok.gnone hl) ⟨vs, upd_same, q, z⟩) (Same.refl _) (.obj l)⟩
  · exact h.elim
theorem l_listF : LCall K (rListOf K) (on1 listF) := by
  refine LCall.imp (l_on1 (r := fun x H Q => ∃ p ys, x = .ref p ∧ (SqL K H p ys ∨ SqT K H p ys) ∧ ∀ l, H l = none → Q (.ref l) (upd H l (.lst ys))) fun v H G M d d' Q Q' ok rv e h hq => ?_) fun vs H Q ⟨v, e, a, ns, f, h⟩ => ⟨a, ns, by rw [e, f], h⟩
  unfold listF at h
  split at h
  · obtain ⟨a, vs, f, h1, q, z⟩ := rv.lstOf ok e
    exact ⟨a, vs, f, .inl (SqL.of h1), fun l hl => hq _ _ _ _ _ h (ok.frozen hl) (same_upd (ok.gnone hl)) (.lst upd_same (q.mono (same_upd (ok.gnone hl))) z)⟩
  · obtain ⟨a, vs, f, h1, q, z⟩ := rv.tupOf ok e
    exact ⟨a, vs, f, .inr (SqT.of h1), fun l hl => hq _ _ _ _ _ h (ok.frozen hl) (same_upd (ok.gnone hl)) (.lst upd_same (q.mono (same_upd (ok.gnone hl))) z)⟩
  · exact h.elim
abbrev rDictOf : List V → Hp → VK → Prop := fun xs H Q => ∃ (a : Addr) (kvs : List (Key × V)), xs = [.ref a] ∧ Rd H a (.dK kvs) ∧ ∀ p, H p = none → Q (.ref p) (upd H p (.dK kvs))
theorem l_dictM : LCall K rDictOf (on1 dictM) := by
  refine LCall.imp (l_on1 (r := fun x H Q => ∃ (a : Addr) (kvs : List (Key × V)), x = .ref a ∧ Rd H a (.dK kvs) ∧ ∀ p, H p = none → Q (.ref p) (upd H p (.dK kvs))) fun v H G M d d' Q Q' ok rv e h hq => ?_) fun vs H Q ⟨v, e, a, ns, f, h⟩ => ⟨a, ns, by rw [e, f], h⟩
  unfold dictM at h
  split at h
  · obtain ⟨a, kv, f, h1, k, q⟩ := rv.dicOf ok e
    exact ⟨a, kv, f, .inl h1, fun l hl => hq _ _ _ _ _ (h l (ok.mnone hl)) (ok.write (m := .dic _) (ok.gnone hl) ⟨kv, upd_same, k, q⟩) (Same.refl _) (.obj l)⟩
  · exact h.elim
theorem l_isi : LCall K (rIsi K) (on2 isiD) := by
  refine LCall.imp (l_on2 (r := fun x c H Q => ∃ (t u : Value) (b : Bool), ClsV c u ∧ TyX K H x t ∧ PySem.W.kitOne K t u = some b ∧ Q (.bl b) H) fun v w H G M d d' d2 d2' Q Q' ok rv rw' e e2 h hq => ?_) fun vs H Q ⟨v, w, e, t, u, b, h⟩ => ⟨v, w, t, u, b, e, h⟩
  unfold isiD at h
  split at h
  · rename_i n
    obtain ⟨b, eb, h⟩ := el_of h
    have ew : w = .ty n := by
      cases rw' with
      | ty => cases e2; rfl
      | obj a => rcases resO_ne e2 with ⟨_, z⟩ | ⟨_, z⟩ | z <;> cases z
      | _ => cases e2
    subst ew
    have fin : ∀ {ty : String}, TyX K H v (.type ty) → kitB ty n = some b → ∃ (t u : Value) (b : Bool), ClsV (.ty n) u ∧ TyX K H v t ∧ PySem.W.kitOne K t u = some b ∧ Q (.bl b) H := fun {ty} k1 k2 =>
      ⟨_, _, b, .ty n, k1, kit_ty k2, hq _ _ _ _ _ h ok (Same.refl _) (.bl _)⟩
    unfold isB at eb
    split at eb
    · cases rv.nonOf e; exact fin (.base .non) eb
    · cases rv.blOf e; exact fin (.base (.bl _)) eb
    · cases rv.intOf e; exact fin (.base (.int _)) eb
    · obtain ⟨f, _⟩ := rv.strOf e; subst f; exact fin (.base (.str _)) eb
    · obtain ⟨a, vs, f, h1, q, z⟩ := rv.lstOf ok e; subst f; exact fin (.base (.lst h1)) eb
    · obtain ⟨a, vs, f, h1, q, z⟩ := rv.tupOf ok e; subst f; exact fin (.base (.tup h1)) eb
    · obtain ⟨a, kv, f, h1, k, q⟩ := rv.dicOf ok e; subst f; exact fin (.base (.dK h1)) eb
    · cases eb
  · exact h.elim
end

/-! ### methods of built-in types -/
def elL : Option MO → (List D → Prop) → Prop
  | some (.lst ds), F => F ds
  | _, _ => False
theorem elL_of {o : Option MO} {F : List D → Prop} (h : elL o F) : ∃ ds, o = some (.lst ds) ∧ F ds := by
  cases o with
  | none => exact h.elim
  | some m => cases m with
    | lst ds => exact ⟨ds, rfl, h⟩
    | dic _ => exact h.elim
    | ins _ _ => exact h.elim
def dMet0 (o : D → List D → Mem → QD → Prop) (to : DE) : DE := fun δ M Q X => to δ M (fun x M1 => o x [] M1 Q) X
/-- x.m(..), the receiver's kind looked at ahead of the arguments -/
def dMet (ty : D → Mem → Prop) (o : D → List D → Mem → QD → Prop) (to : DE) (t : DA) : DE := fun δ M Q X => to δ M (fun x M1 => ty x M1 ∧ t δ M1 (fun ds M2 => o x ds M2 Q) X) X
def LMet (K : PySem.W.Frag) (r : V → List V → Hp → VK → Prop) (o : D → List D → Mem → QD → Prop) : Prop := ∀ (v : V) (vs : List V) (H G : Hp) (M : Mem) (d : D) (ds : List D) (Q : VK) (Q' : QD), Ok K H G M → Rep K G v d → RepL K G vs ds → o d ds M Q' →
  (∀ d M' v H' G', Q' d M' → Ok K H' G' M' → Same G G' → Rep K G' v d → Q v H') → r v vs H Q
def isLst (d : D) (M : Mem) : Prop := match res M d with
  | .lst _ => True
  | _ => False
def isStr (d : D) (_ : Mem) : Prop := match d with
  | .str _ => True
  | _ => False
def oAppend (x : D) (ds : List D) (M : Mem) (Q : QD) : Prop := match x, ds with
  | .obj a, [d] => elL (M a) fun xs => xs.length < sizeLine ∧ Q .non (M.set a (.lst (xs ++ [d])))
  | _, _ => False
def oInsert (x : D) (ds : List D) (M : Mem) (Q : QD) : Prop := match x, ds with
  | .obj a, [.int i, d] => elL (M a) fun xs => xs.length < sizeLine ∧ 0 ≤ i ∧ i < 2 ^ 63 ∧ Q .non (M.set a (.lst (xs.take i.toNat ++ [d] ++ xs.drop i.toNat)))
  | _, _ => False
def oPop (x : D) (ds : List D) (M : Mem) (Q : QD) : Prop := match x, ds with
  | .obj a, [] => elL (M a) fun xs => el xs[xs.length - 1]? fun d => Q d (M.set a (.lst xs.dropLast))
  | _, _ => False
def oPopAt (x : D) (ds : List D) (M : Mem) (Q : QD) : Prop := match x, ds with
  | .obj a, [.int i] => elL (M a) fun xs => 0 ≤ i ∧ i < 2 ^ 62 ∧ el xs[i.toNat]? fun d => Q d (M.set a (.lst (xs.eraseIdx i.toNat)))
  | _, _ => False
def oIndex (x : D) (ds : List D) (M : Mem) (Q : QD) : Prop := match res M x, ds with
  | .lst xs, [d] => flatD d = true ∧ xs.all flatD = true ∧ ∃ (j : Nat) (z : D), xs[j]? = some z ∧ eqF z d = true ∧ (∀ (m : Nat) (z' : D), m < j → xs[m]? = some z' → eqF z' d = false) ∧ Q (.int (j : Nat)) M
  | _, _ => False
def oSplit (x : D) (ds : List D) (M : Mem) (Q : QD) : Prop := match x, ds with
  | .str a, [.str b] => (b.length == 0) = false ∧ a.length + 2 ≤ sizeLine ∧ (Txt.split a b).length ≤ sizeLine ∧ (∀ z ∈ Txt.split a b, strOk z = true) ∧ Q (.lst ((Txt.split a b).map .str)) M
  | _, _ => False
def oJoin (x : D) (ds : List D) (M : Mem) (Q : QD) : Prop := match x, ds with
  | .str a, [d] => ∃ ys : List Str, (res M d = .lst (ys.map .str) ∨ res M d = .tup (ys.map .str)) ∧ (ys.map (·.length)).sum + ys.length * a.length ≤ 16777216 ∧ strOk (Txt.join a ys) = true ∧ Q (.str (Txt.join a ys)) M
  | _, _ => False
section
variable {K : PySem.W.Frag} {X : Cx} {W : WX} {o e : Expr} {es : List Expr} {to te : DE} {t : DA} {name : Str} {apos cpos : Pos} {T id : String} {r : V → List V → Hp → VK → Prop} {oo : D → List D → Mem → QD → Prop}
theorem isLst_of {H G : Hp} {M : Mem} {v : V} {d : D} (ok : Ok K H G M) (rv : Rep K G v d) (h : isLst d M) : tyV K "list" v H := by
  unfold isLst at h
  split at h
  · rename_i ds e
    obtain ⟨a, vs, f, h1, q, z⟩ := rv.lstOf ok e
    subst f
    exact .inl ⟨rfl, _, SqL.of h1⟩
  · exact h.elim
theorem pd_bmL (pa : PlainAttrs "list") (slot : Slot "list" name id) (hty : typeOf (.builtin id) = pure (.type "method_descriptor")) (hm : MtR X id r) (l : LMet X.K r oo) (ho : PD X W o to) (ha : PDA X W (e :: es) t)
    (hbase : attributeBase o name X.env (eval o X.env) = eval o X.env := by rfl)
    (hfew : ((backTo cpos (starEach (e :: es) X.env)).all (fun x => !x.1) && (backToKw cpos (keywordEach [] X.env)).all (fun x => x.1.isSome)
      && decide ((e :: es).length + ([] : List Keyword).length + (if ([] : List Keyword).isEmpty then 0 else 1) < 30)) = true := by rfl)
    (hline : (apos.endLine == cpos.line) = true := by rfl) (hs : starEach (e :: es) X.env = (false, eval e X.env) :: starEach es X.env := by rfl) (hplain : (backTo cpos (starEach es X.env)).any (·.1) = false := by rfl) :
    PD X W (.Call (.Attribute o name apos) (e :: es) [] cpos) (dMet isLst oo to t) :=
  PEw (pe_bm pa slot hty hm ho ha hbase hfew hline hs hplain) fun σ H Q ⟨G, M, δ, Q', X', ok, sl, h, hq, hx⟩ => ⟨G, M, δ, _, X', ok, sl, h, fun d M1 v H1 G1 h1 ok1 e1 r1 =>
    ⟨isLst_of ok1 r1 h1.1, G1, M1, δ, _, X', ok1, sl.mono e1, h1.2, fun ds M2 vs H2 G2 h2 ok2 e2 r2 => l v vs H2 G2 M2 d ds Q Q' ok2 (r1.mono e2) r2 h2 fun d3 M3 v3 H3 G3 h3 ok3 e3 r3 => hq d3 M3 v3 H3 G3 h3 ok3 (e1.trans (e2.trans e3)) r3, hx.mono e1⟩, hx⟩
def dMet0L (oo : D → List D → Mem → QD → Prop) (to : DE) : DE := fun δ M Q X => to δ M (fun x M1 => isLst x M1 ∧ oo x [] M1 Q) X
theorem pd_bm0L (pa : PlainAttrs "list") (slot : Slot "list" name id) (hty : typeOf (.builtin id) = pure (.type "method_descriptor")) (hm : MtR X id r) (l : LMet X.K r oo) (ho : PD X W o to)
    (hbase : attributeBase o name X.env (eval o X.env) = eval o X.env := by rfl) (hline : (apos.endLine == cpos.line) = true := by rfl) : PD X W (.Call (.Attribute o name apos) [] [] cpos) (dMet0L oo to) :=
  PEw (pe_bm0 pa slot hty hm ho hbase hline) fun σ H Q ⟨G, M, δ, Q', X', ok, sl, h, hq, hx⟩ => ⟨G, M, δ, _, X', ok, sl, h, fun d M1 v H1 G1 h1 ok1 e1 r1 =>
    ⟨isLst_of ok1 r1 h1.1, l v [] H1 G1 M1 d [] Q Q' ok1 r1 .nil h1.2 fun d3 M3 v3 H3 G3 h3 ok3 e3 r3 => hq d3 M3 v3 H3 G3 h3 ok3 (e1.trans e3) r3⟩, hx⟩
theorem pd_m1 (slot : Slot "str" name id) (ty : typeOf (.builtin id) = pure (.type "method_descriptor")) (rule : MtR X id r) (l : LMet X.K r oo) (ho : PD X W o to) (he : PD X W e te)
    (hs : starEach [e] X.env = [(false, eval e X.env)] := by rfl) (hbase : attributeBase o name X.env (eval o X.env) = eval o X.env := by rfl) (hline : (apos.endLine == cpos.line) = true := by rfl) :
    PD X W (.Call (.Attribute o name apos) [e] [] cpos) (dMet isStr oo to (dCons te dNil)) :=
  PEw (pe_m1 slot ty rule ho he hs hbase hline) fun σ H Q ⟨G, M, δ, Q', X', ok, sl, h, hq, hx⟩ => ⟨G, M, δ, _, X', ok, sl, h, fun d M1 v H1 G1 h1 ok1 e1 r1 =>
    ⟨by
      have := h1.1
      unfold isStr at this
      split at this
      · cases r1; exact ⟨_, rfl⟩
      · exact this.elim, G1, M1, δ, _, X', ok1, sl.mono e1, h1.2, fun d2 M2 v2 H2 G2 h2 ok2 e2 r2 => l v [v2] H2 G2 M2 d [d2] Q Q' ok2 (r1.mono e2) (.one r2) h2 fun d3 M3 v3 H3 G3 h3 ok3 e3 r3 => hq d3 M3 v3 H3 G3 h3 ok3 (e1.trans (e2.trans e3)) r3, hx.mono e1⟩, hx⟩
theorem l_append : LMet K rAppend oAppend := by
  intro v vs H G M d ds Q Q' ok rv rl h hq
  unfold oAppend at h
  split at h
  · obtain ⟨xs, m, hz, h⟩ := elL_of h
    obtain ⟨g, ys, h1, q, z⟩ := ok.mem _ _ m
    cases rv
    cases rl with
    | cons r1 r2 =>
      cases r2
      exact ⟨_, ys, _, rfl, rfl, h1, by rw [q.len]; exact hz, hq _ _ _ _ _ h (ok.write (m := .lst _) g ⟨_, upd_same, q.append (.one r1), by rw [List.length_append]; exact hz⟩) (Same.refl _) .non⟩
  · exact h.elim
abbrev rInsert : V → List V → Hp → VK → Prop := fun x vs H Q => ∃ (l : Addr) (xs : List V) (i : Int) (y : V), x = .ref l ∧ vs = [.int i, y] ∧ H l = some (.lst xs) ∧ xs.length < sizeLine ∧ 0 ≤ i ∧ i < 2 ^ 63 ∧
    Q .non (upd H l (.lst (xs.take i.toNat ++ [y] ++ xs.drop i.toNat)))
theorem l_insert : LMet K rInsert oInsert := by
  intro v vs H G M d ds Q Q' ok rv rl h hq
  unfold oInsert at h
  split at h
  · obtain ⟨xs, m, hz, h0, h2, h⟩ := elL_of h
    obtain ⟨g, ys, h1, q, z⟩ := ok.mem _ _ m
    cases rv
    cases rl with
    | cons r1 r2 =>
      cases r2 with
      | cons r2 r3 =>
        cases r3
        cases r1
        refine ⟨_, ys, _, _, rfl, rfl, h1, by rw [q.len]; exact hz, h0, h2, hq _ _ _ _ _ h (ok.write (m := .lst _) g ⟨_, upd_same, ((q.take _).append (.one r2)).append (q.drop _), ?_⟩) (Same.refl _) .non⟩
        rw [List.length_append, List.length_append, List.length_take, List.length_drop, List.length_singleton]
        omega
  · exact h.elim
theorem RepL.dropLast {G : Hp} {vs : List V} {ds : List D} (r : RepL K G vs ds) : RepL K G vs.dropLast ds.dropLast := by
  rw [List.dropLast_eq_take, List.dropLast_eq_take, r.len]
  exact r.take _
theorem l_pop : LMet K rPop oPop := by
  intro v vs H G M d ds Q Q' ok rv rl h hq
  unfold oPop at h
  split at h
  · obtain ⟨xs, m, h⟩ := elL_of h
    obtain ⟨z0, ez, h⟩ := el_of h
    obtain ⟨g, ys, h1, q, z⟩ := ok.mem _ _ m
    cases rv
    cases rl
    obtain ⟨y, ey, ry⟩ := q.at ez
    exact ⟨_, ys, y, rfl, rfl, h1, by rw [q.len]; exact ey, hq _ _ _ _ _ h (ok.write (m := .lst _) g ⟨_, upd_same, q.dropLast, by rw [List.length_dropLast]; omega⟩) (Same.refl _) ry⟩
  · exact h.elim
theorem l_popAt : LMet K rPopAt oPopAt := by
  intro v vs H G M d ds Q Q' ok rv rl h hq
  unfold oPopAt at h
  split at h
  · rename_i a i
    obtain ⟨xs, m, h0, h2, h⟩ := elL_of h
    obtain ⟨z0, ez, h⟩ := el_of h
    obtain ⟨g, ys, h1, q, z⟩ := ok.mem _ _ m
    cases rv
    cases rl with
    | cons r1 r2 =>
      cases r2
      cases r1
      obtain ⟨y, ey, ry⟩ := q.at ez
      have e1 : atI ys i = some y := by
        have : i = ((i.toNat : Nat) : Int) := by omega
        rw [this]
        exact atI_nat ey
      obtain ⟨j, f1, f2, f3, f4, f5⟩ := atI_get e1
      have hi : (i.toNat : Int) = i := Int.toNat_of_nonneg h0
      have ej : some i.toNat = some j := by
        rw [← f1]
        unfold seqIndex?
        dsimp only
        have h5 : i < (ys.length : Int) := f5
        rw [if_neg (show ¬ i < 0 by omega)]
        simp [h0, h5]
      cases ej
      exact ⟨_, ys, i, _, y, rfl, rfl, h1, by omega, by omega, f1, f2, hq _ _ _ _ _ h (ok.write (m := .lst _) g ⟨_, upd_same, q.erase _, by
        have := len_erase xs i.toNat
        omega⟩) (Same.refl _) ry⟩
  · exact h.elim
theorem l_index : LMet K (rIndex K) oIndex := by
  intro v vs H G M d ds Q Q' ok rv rl h hq
  unfold oIndex at h
  split at h
  · rename_i xs d e
    obtain ⟨fd, fs, j, z0, e1, e2, e3, h⟩ := h
    obtain ⟨a, ys, f, h1, q, z⟩ := rv.lstOf ok e
    cases rl with
    | cons r1 r2 =>
      cases r2
      obtain ⟨y, ey, ry⟩ := q.at e1
      have fl : ∀ {m : Nat} {z' : D}, xs[m]? = some z' → flatD z' = true := fun {m z'} hm => List.all_eq_true.mp fs z' (List.mem_of_getElem? hm)
      refine ⟨a, ys, _, j, y, f, rfl, SqL.of h1, r1.flat fd, q.flat fs, ey, by rw [ry.eqF r1 (fl e1) fd]; exact e2, fun m z' hm hz' => ?_, hq _ _ _ _ _ h ok (Same.refl _) (.int _)⟩
      obtain ⟨d', ed, rd⟩ := q.get hz'
      rw [rd.eqF r1 (fl ed) fd]
      exact e3 m d' hm ed
  · exact h.elim
theorem reps_strs {G : Hp} : ∀ {ns : List Str} {vs : List V}, RepL K G vs (ns.map D.str) → vs = ns.map V.str
  | [], _, .nil => rfl
  | i :: r, _, .cons (.str _ _) t => by rw [List.map_cons, ← reps_strs t]
theorem RepL.strs {G : Hp} : ∀ {ns : List Str}, (∀ z ∈ ns, strOk z = true) → RepL K G (ns.map V.str) (ns.map D.str)
  | [], _ => .nil
  | i :: r, h => .cons (.str _ (h i List.mem_cons_self)) (RepL.strs fun z hz => h z (List.mem_cons_of_mem _ hz))
abbrev rSplit : V → List V → Hp → VK → Prop := fun x xs H Q => ∃ a b, x = .str a ∧ xs = [.str b] ∧ (b.length == 0) = false ∧ a.length + 2 ≤ sizeLine ∧ rNewStrs (Txt.split a b) H Q
theorem l_split : LMet K rSplit oSplit := by
  intro v vs H G M d ds Q Q' ok rv rl h hq
  unfold oSplit at h
  split at h
  · rename_i a b
    obtain ⟨h0, h2, hz, hs, h⟩ := h
    cases rv
    cases rl with
    | cons r1 r2 =>
      cases r2
      cases r1
      refine ⟨a, b, rfl, rfl, h0, h2, fun p hp => ?_⟩
      have gp := ok.gnone hp
      exact hq _ _ _ _ _ h (ok.frozen hp) (same_upd gp) (.lst upd_same (.strs hs) (by rw [List.length_map]; exact hz))
  · exact h.elim
abbrev rJoin (K : PySem.W.Frag) : V → List V → Hp → VK → Prop := fun x xs H Q => ∃ a p, ∃ ys : List Str, x = .str a ∧ xs = [.ref p] ∧ (SqL K H p (ys.map V.str) ∨ SqT K H p (ys.map V.str)) ∧
    (ys.map (·.length)).sum + ys.length * a.length ≤ 16777216 ∧ Q (.str (Txt.join a ys)) H
theorem l_join : LMet K (rJoin K) oJoin := by
  intro v vs H G M d ds Q Q' ok rv rl h hq
  unfold oJoin at h
  split at h
  · rename_i a d
    obtain ⟨ys, e, hz, hs, h⟩ := h
    cases rv
    cases rl with
    | cons r1 r2 =>
      cases r2
      rcases e with e | e
      · obtain ⟨p, us, f, h1, q, z⟩ := r1.lstOf ok e
        have := reps_strs q
        subst this
        exact ⟨a, p, ys, rfl, by rw [f], .inl (SqL.of h1), hz, hq _ _ _ _ _ h ok (Same.refl _) (.str _ hs)⟩
      · obtain ⟨p, us, f, h1, q, z⟩ := r1.tupOf ok e
        have := reps_strs q
        subst this
        exact ⟨a, p, ys, rfl, by rw [f], .inr (SqT.of h1), hz, hq _ _ _ _ _ h ok (Same.refl _) (.str _ hs)⟩
  · exact h.elim
end
end DL

/-! The data layer: what is walked, comprehensions -/
namespace DL
open PySem PySem.Spec PyProof.Rows L2

/-- the items, and what has to stay so while they are walked -/
abbrev DI := DS → Mem → (List D → (Mem → Prop) → Mem → Prop) → XD → Prop
def LIt (K : PySem.W.Frag) (G0 : Hp) (J : It) (items : List D) (P : Mem → Prop) : Prop := ∀ (i : Nat) (H G : Hp) (M : Mem), Ok K H G M → Same G0 G → P M →
  (items.length ≤ i → J.stop i H) ∧ (∀ d, items[i]? = some d → J.go i H ∧ ∀ x H', J.yld i H x H' → ∃ G', Ok K H' G' M ∧ Same G G' ∧ Rep K G' x d)
def upI (K : PySem.W.Frag) (W : WX) (t : DI) : TI := fun σ H R => ∃ (G : Hp) (M : Mem) (δ : DS) (R' : List D → (Mem → Prop) → Mem → Prop) (X' : XD), Ok K H G M ∧ Slots K G σ δ ∧ t δ M R' X' ∧
  (∀ items P M' J H' G', R' items P M' → Ok K H' G' M' → Same G G' → LIt K G' J items P → items.length ≤ sizeLine → R J H') ∧ WOk K W G X'
abbrev PDI (X : Cx) (W : WX) (tg iter : Expr) (t : DI) : Prop := PI X tg iter (upI X.K W t)
theorem PIw {X : Cx} {tg e : Expr} {t t' : TI} (h : PI X tg e t) (w : ∀ σ H Q, t' σ H Q → t σ H Q) : PI X tg e t' := ⟨fun pins s σ H Q I q => h.run pins s σ H Q I (w σ H Q q)⟩

/-- a list, a tuple, a text -/
def iAny (K : PySem.W.Frag) (tl : TE) : TI := fun σ H R => tl σ H fun x H1 => (∃ a, x = .ref a ∧ (∃ xs, SqL K H1 a xs) ∧ R (Itl K a) H1) ∨ (∃ a, x = .ref a ∧ (∃ xs, SqT K H1 a xs) ∧ R (Itt K a) H1) ∨ (∃ z, x = .str z ∧ R (Its z) H1)
theorem pi_any {X : Cx} {tg l : Expr} {tl : TE} (hl : PE X l tl) : PI X tg l (iAny X.K tl) := by
  refine ⟨fun pins s σ H R I h => ?_⟩
  refine thn (hl.run pins s σ H _ I h) fun v s1 ⟨x, H1, I1, r1, q1⟩ => ?_
  rcases q1 with ⟨a, e, ⟨xs, hq⟩, q⟩ | ⟨a, e, ⟨xs, hq⟩, q⟩ | ⟨z, e, q⟩
  · subst e
    cases r1
    obtain ⟨its, rv, p, hz⟩ := I1.list hq
    refine wpAny_pyIter_list p.isList ?_
    refine ⟨s1.heap.objs.size, [s1.heap.objs.size], _, _, H1, rfl, I1.kept (t' := s1.toks) fun b o e => Heap.get?_push_of_some _ e, turn_list a _, ⟨_, Heap.get?_push_size _ rfl, rfl, rfl⟩, fun b hb => ?_, q⟩
    have e : b = s1.heap.objs.size := by simpa using hb
    subst e
    exact I1.fpOk (Nat.le_refl _) (I1.hok.fresh (Nat.le_refl _))
  · subst e
    cases r1
    obtain ⟨its, rv, p, hz⟩ := I1.tuple hq
    refine wpAny_pyIter_tuple (show s1.heap.IsTuple a its.toArray from p) ?_
    refine ⟨s1.heap.objs.size, [s1.heap.objs.size], _, _, H1, rfl, I1.kept (t' := s1.toks) fun b o e => Heap.get?_push_of_some _ e, turn_tuple a _, ⟨_, Heap.get?_push_size _ rfl, rfl, rfl⟩, fun b hb => ?_, q⟩
    have e : b = s1.heap.objs.size := by simpa using hb
    subst e
    exact I1.fpOk (Nat.le_refl _) (I1.hok.fresh (Nat.le_refl _))
  · subst e
    obtain ⟨t, rfl⟩ := r1
    cases ha : z.cps.all (· < 128)
    · exact wpAny_pyIter_wide ha (pi_one (tk := s1.toks) I1 _ (turn_str _ z t "str_iterator" (.inr rfl)) ⟨_, Heap.get?_push_size _ rfl, rfl, rfl⟩ q)
    · exact wpAny_pyIter_ascii ha (pi_one (tk := s1.toks) I1 _ (turn_str _ z t "str_ascii_iterator" (.inl rfl)) ⟨_, Heap.get?_push_size _ rfl, rfl, rfl⟩ q)

def signsD (z : Str) : List D := z.cps.toList.map fun c => .str ⟨#[c]⟩
abbrev still : Mem → Prop := fun _ => True
def itemsOf (d : D) (M : Mem) (F : List D → (Mem → Prop) → Prop) : Prop := match d with
  | .lst ds => F ds still
  | .tup ds => F ds still
  | .str z => F (signsD z) still
  | .obj a => elL (M a) fun ds => F ds fun M' => M' a = some (.lst ds)
  | _ => False
def dItems (t : DE) : DI := fun δ M R X => t δ M (fun d M1 => itemsOf d M1 fun items P => R items P M1) X
def rangeD (lo : Int) (n : Nat) : List D := (List.range n).map fun i => .int (lo + (i : Nat))
def rng1 (ds : List D) (F : List D → (Mem → Prop) → Prop) : Prop := match ds with
  | [.int j] => -1000000 ≤ j ∧ j ≤ 1000000 ∧ F (rangeD 0 j.toNat) still
  | _ => False
def dRange1 (t : DA) : DI := fun δ M R X => t δ M (fun ds M1 => rng1 ds fun items P => R items P M1) X
def enumD : Nat → List D → List D
  | _, [] => []
  | i, d :: r => .tup [.int (i : Nat), d] :: enumD (i + 1) r
def enumOf (ds : List D) (M : Mem) (F : List D → (Mem → Prop) → Prop) : Prop := match ds with
  | [.lst xs] => F (enumD 0 xs) still
  | [.obj a] => elL (M a) fun xs => F (enumD 0 xs) fun M' => M' a = some (.lst xs)
  | _ => False
def dEnum (t : DA) : DI := fun δ M R X => t δ M (fun ds M1 => enumOf ds M1 fun items P => R items P M1) X
section
variable {X : Cx} {W : WX} {tg e : Expr} {te : DE} {t : DA} {K : PySem.W.Frag}
theorem it_list {G : Hp} {a : Addr} {vs : List V} {ds : List D} (h : G a = some (.lst vs)) (r : RepL K G vs ds) : LIt K G (Itl K a) ds still := fun i H G1 M ok s _ => by
  have hS : SqL K H a vs := SqL.of (ok.sub _ _ (s _ _ h))
  refine ⟨fun hl => ⟨vs, hS, by rw [r.len]; exact hl⟩, fun d hd => ?_⟩
  obtain ⟨v, ev, rv⟩ := r.at hd
  refine ⟨⟨vs, v, hS, ev⟩, fun x H' ⟨e1, e2⟩ => ?_⟩
  have := e2 vs hS
  rw [ev] at this
  cases this
  subst e1
  exact ⟨G1, ok, Same.refl _, rv.mono s⟩
theorem it_tup {G : Hp} {a : Addr} {vs : List V} {ds : List D} (h : G a = some (.tup vs)) (r : RepL K G vs ds) : LIt K G (Itt K a) ds still := fun i H G1 M ok s _ => by
  have hS : SqT K H a vs := SqT.of (ok.sub _ _ (s _ _ h))
  refine ⟨fun hl => ⟨vs, hS, by rw [r.len]; exact hl⟩, fun d hd => ?_⟩
  obtain ⟨v, ev, rv⟩ := r.at hd
  refine ⟨⟨vs, v, hS, ev⟩, fun x H' ⟨e1, e2⟩ => ?_⟩
  have := e2 vs hS
  rw [ev] at this
  cases this
  subst e1
  exact ⟨G1, ok, Same.refl _, rv.mono s⟩
theorem it_str {G : Hp} {z : Str} (h : strOk z = true) : LIt K G (Its z) (signsD z) still := fun i H G1 M ok s _ => by
  unfold signsD
  refine ⟨fun hl => by
    rw [List.length_map, Array.length_toList] at hl
    exact hl, fun d hd => ?_⟩
  rw [List.getElem?_map, Array.getElem?_toList] at hd
  cases ec : z.cps[i]? with
  | none => rw [ec] at hd; cases hd
  | some c =>
    rw [ec] at hd
    cases hd
    refine ⟨(Array.getElem?_eq_some_iff.mp ec).1, fun x H' ⟨e1, c', e2, e3⟩ => ?_⟩
    rw [ec] at e2; cases e2
    subst e1 e3
    exact ⟨G1, ok, Same.refl _, .str _ (strOk_one h (List.mem_of_getElem? (by rw [Array.getElem?_toList]; exact ec)))⟩
theorem it_range {G : Hp} {lo : Int} {n : Nat} : LIt K G (Itr lo n) (rangeD lo n) still := fun i H G1 M ok s _ => by
  unfold rangeD
  refine ⟨fun hl => by
    rw [List.length_map, List.length_range] at hl
    exact hl, fun d hd => ?_⟩
  rw [List.getElem?_map] at hd
  cases ec : (List.range n)[i]? with
  | none => rw [ec] at hd; cases hd
  | some c =>
    rw [ec] at hd
    cases hd
    obtain ⟨hi, ei⟩ := List.getElem?_eq_some_iff.mp ec
    rw [List.getElem_range] at ei
    subst ei
    refine ⟨(by simpa using hi : i < n), fun x H' ⟨e1, e2⟩ => ?_⟩
    subst e1 e2
    exact ⟨G1, ok, Same.refl _, .int _⟩
theorem enumD_len : ∀ (k : Nat) (ds : List D), (enumD k ds).length = ds.length
  | _, [] => rfl
  | k, d :: r => by rw [enumD, List.length_cons, List.length_cons, enumD_len]
theorem enumD_get : ∀ (k : Nat) (ds : List D) (i : Nat), (enumD k ds)[i]? = (ds[i]?).map fun d => .tup [.int ((k + i : Nat) : Int), d]
  | _, [], i => by simp [enumD]
  | k, d :: r, 0 => by simp [enumD]
  | k, d :: r, i + 1 => by
    rw [enumD, List.getElem?_cons_succ, List.getElem?_cons_succ, enumD_get (k + 1) r i]
    rw [show k + 1 + i = k + (i + 1) by omega]
theorem it_enum {G : Hp} {a : Addr} {vs : List V} {ds : List D} (h : G a = some (.lst vs)) (r : RepL K G vs ds) : LIt K G (Ite K a) (enumD 0 ds) still := fun i H G1 M ok s _ => by
  have hS : SqL K H a vs := SqL.of (ok.sub _ _ (s _ _ h))
  refine ⟨fun hl => ⟨vs, hS, by rw [r.len]; rw [enumD_len] at hl; exact hl⟩, fun d hd => ?_⟩
  rw [enumD_get] at hd
  cases ec : ds[i]? with
  | none => rw [ec] at hd; cases hd
  | some d0 =>
    rw [ec] at hd
    cases hd
    obtain ⟨v, ev, rv⟩ := r.at ec
    refine ⟨⟨vs, v, hS, ev⟩, fun x H' ⟨T, y, e1, e2, e3, e4⟩ => ?_⟩
    have := e4 vs hS
    rw [ev] at this
    cases this
    subst e1 e3
    have gp := ok.gnone e2
    refine ⟨_, ok.frozen e2, same_upd gp, .tup upd_same ?_ (by show 2 ≤ sizeLine; rw [sizeLine_eq]; decide)⟩
    rw [Nat.zero_add]
    exact .cons (.int _) (.one ((rv.mono s).mono (same_upd gp)))
theorem it_listM {G : Hp} {a : Addr} {ds : List D} : LIt K G (Itl K a) ds (fun M' => M' a = some (.lst ds)) := fun i H G1 M ok s m => by
  obtain ⟨g, vs, h, r, z⟩ := ok.mem _ _ m
  have hS : SqL K H a vs := SqL.of h
  refine ⟨fun hl => ⟨vs, hS, by rw [r.len]; exact hl⟩, fun d hd => ?_⟩
  obtain ⟨v, ev, rv⟩ := r.at hd
  refine ⟨⟨vs, v, hS, ev⟩, fun x H' ⟨e1, e2⟩ => ?_⟩
  have := e2 vs hS
  rw [ev] at this
  cases this
  subst e1
  exact ⟨G1, ok, Same.refl _, rv⟩
theorem it_enumM {G : Hp} {a : Addr} {ds : List D} : LIt K G (Ite K a) (enumD 0 ds) (fun M' => M' a = some (.lst ds)) := fun i H G1 M ok s m => by
  obtain ⟨g, vs, h, r, z⟩ := ok.mem _ _ m
  have hS : SqL K H a vs := SqL.of h
  refine ⟨fun hl => ⟨vs, hS, by rw [r.len]; rw [enumD_len] at hl; exact hl⟩, fun d hd => ?_⟩
  rw [enumD_get] at hd
  cases ec : ds[i]? with
  | none => rw [ec] at hd; cases hd
  | some d0 =>
    rw [ec] at hd
    cases hd
    obtain ⟨v, ev, rv⟩ := r.at ec
    refine ⟨⟨vs, v, hS, ev⟩, fun x H' ⟨T, y, e1, e2, e3, e4⟩ => ?_⟩
    have := e4 vs hS
    rw [ev] at this
    cases this
    subst e1 e3
    have gp := ok.gnone e2
    refine ⟨_, ok.frozen e2, same_upd gp, .tup upd_same ?_ (by show 2 ≤ sizeLine; rw [sizeLine_eq]; decide)⟩
    rw [Nat.zero_add]
    exact .cons (.int _) (.one (rv.mono (same_upd gp)))
theorem pdi_any (h : PD X W e te) : PDI X W tg e (dItems te) :=
  PIw (pi_any h) fun σ H Q ⟨G, M, δ, Q', X', ok, sl, h, hq, hx⟩ => ⟨G, M, δ, _, X', ok, sl, h, fun d M1 v H1 G1 h1 ok1 e1 r1 => by
    unfold itemsOf at h1
    split at h1
    · cases r1 with
      | lst hg r z => exact .inl ⟨_, rfl, ⟨_, SqL.of (ok1.sub _ _ hg)⟩, hq _ _ _ _ _ _ h1 ok1 e1 (it_list hg r) z⟩
    · cases r1 with
      | tup hg r z => exact .inr (.inl ⟨_, rfl, ⟨_, SqT.of (ok1.sub _ _ hg)⟩, hq _ _ _ _ _ _ h1 ok1 e1 (it_tup hg r) z⟩)
    · cases r1 with
      | str z hs => exact .inr (.inr ⟨_, rfl, hq _ _ _ _ _ _ h1 ok1 e1 (it_str hs) (by unfold signsD; rw [List.length_map, Array.length_toList]; exact strOk_len hs)⟩)
    · obtain ⟨ds, m, h2⟩ := elL_of h1
      obtain ⟨g, vs, hH, r, z⟩ := ok1.mem _ _ m
      cases r1
      exact .inl ⟨_, rfl, ⟨_, SqL.of hH⟩, hq _ _ _ _ _ _ h2 ok1 e1 it_listM z⟩
    · exact h1.elim, hx⟩
theorem line_big : (1000000 : Nat) ≤ sizeLine := by rw [sizeLine_eq]; decide
theorem pdi_range1 {a : Expr} {p pos : Pos} (hg : Gl X "range") (hm : X.mg "range" = none) (ha : PDA X W [a] t) (hs : starEach [a] X.env = [(false, eval a X.env)] := by rfl) : PDI X W tg (.Call (.Name "range" p) [a] [] pos) (dRange1 t) :=
  PIw (pi_range1 hg hm ha hs) fun σ H Q ⟨G, M, δ, Q', X', ok, sl, h, hq, hx⟩ => ⟨G, M, δ, _, X', ok, sl, h, fun ds M1 vs H1 G1 h1 ok1 e1 r1 => by
    unfold rng1 at h1
    split at h1
    · rename_i j
      cases r1 with
      | cons r1 r2 =>
        cases r2
        cases r1
        obtain ⟨b1, b2, h1⟩ := h1
        exact ⟨j, rfl, by omega, by omega, hq _ _ _ _ _ _ h1 ok1 e1 it_range (by
          unfold rangeD
          rw [List.length_map, List.length_range]
          have := line_big
          omega)⟩
    · exact h1.elim, hx⟩
theorem pdi_enum {p pos tpos : Pos} {elts : List Expr} {kk : Nat} (hg : Gl X "enumerate") (hm : X.mg "enumerate" = none) (ha : PDA X W [e] t) (hs : starEach [e] X.env = [(false, eval e X.env)] := by rfl) :
    PDI X W (.Tuple elts kk tpos) (.Call (.Name "enumerate" p) [e] [] pos) (dEnum t) :=
  PIw (pi_enum hg hm ha hs) fun σ H Q ⟨G, M, δ, Q', X', ok, sl, h, hq, hx⟩ => ⟨G, M, δ, _, X', ok, sl, h, fun ds M1 vs H1 G1 h1 ok1 e1 r1 => by
    unfold enumOf at h1
    split at h1
    · cases r1 with
      | cons r1 r2 =>
        cases r2
        cases r1 with
        | lst hg r z => exact ⟨_, _, rfl, SqL.of (ok1.sub _ _ hg), hq _ _ _ _ _ _ h1 ok1 e1 (it_enum hg r) (by rw [enumD_len]; exact z)⟩
    · obtain ⟨xs, m, h2⟩ := elL_of h1
      obtain ⟨g, vs, hH, r, z⟩ := ok1.mem _ _ m
      cases r1 with
      | cons r1 r2 =>
        cases r2
        cases r1
        exact ⟨_, _, rfl, SqL.of hH, hq _ _ _ _ _ _ h2 ok1 e1 it_enumM (by rw [enumD_len]; exact z)⟩
    · exact h1.elim, hx⟩
end

/-! ### comprehensions -/
abbrev PDTs (X : Cx) (W : WX) (ifs : List Expr) (t : DT) : Prop := PTs X ifs (upT X.K W t)
def dYes : DT := fun _ M Q _ => Q true M
def lcL (D0 : Addr) (i : Nat) (tt : DT) (te : DE) (δ : DS) (P : Mem → Prop) (Q : Mem → Prop) : List D → List D → Mem → Prop
  | [], _, M => P M ∧ Q M
  | x :: xs, acc, M => P M ∧ tt (δ.set i (some x)) M (fun b M1 => cond b (te (δ.set i (some x)) M1 (fun d M2 => M2 D0 = some (.lst acc) ∧ lcL D0 i tt te δ P Q xs (acc ++ [d]) (M2.set D0 (.lst (acc ++ [d])))) fun _ _ _ => False) (M1 D0 = some (.lst acc) ∧ lcL D0 i tt te δ P Q xs acc M1)) fun _ _ _ => False
theorem lcL_P {D0 : Addr} {i : Nat} {tt : DT} {te : DE} {δ : DS} {P Q : Mem → Prop} {M : Mem} : ∀ {xs acc : List D}, lcL D0 i tt te δ P Q xs acc M → P M
  | [], _, h => h.1
  | _ :: _, _, h => h.1
/-- [elt for x in items if tt], x in slot i: a list that may change -/
def dLcM (ti : DI) (i : Nat) (tt : DT) (te : DE) : DE := fun δ M Q X => ti δ M (fun items P M1 => ∀ D0, M1 D0 = none → lcL D0 i tt te (dwipe δ [i]) P (fun M2 => Q (.obj D0) M2) items [] (M1.set D0 (.lst []))) X
abbrev dLc (ti : DI) (i : Nat) (tt : DT) (te : DE) : DE := dFrz (dLcM ti i tt te)
section
variable {X : Cx} {W : WX} {K : PySem.W.Frag} {ti : DI} {i : Nat} {tt : DT} {te : DE}
theorem pdts_nil : PDTs X W [] dYes := ⟨fun pins s σ H Q I ⟨G, M, δ, Q', X', ok, sl, h, hq, hx⟩ => (pts_nil (X := X)).run pins s σ H Q I (hq true M H G h ok (Same.refl _))⟩
theorem pdts_one {c : Expr} {t : DT} (h : PDT X W c t) : PDTs X W [c] t := pts_one h
theorem up_frz {te : DE} {σ : L2.St} {H : Hp} {Q : VK} (h : up K W (dFrz te) σ H Q) : up K W te σ H Q := by
  obtain ⟨G, M, δ, Q', X', ok, sl, h, hq, hx⟩ := h
  refine ⟨G, M, δ, _, X', ok, sl, h, fun d M1 v H1 G1 h1 ok1 e1 r1 => ?_, hx⟩
  obtain ⟨d', M', G', h2, ok2, e2, r2⟩ := frz_of ok1 r1 h1
  exact hq _ _ _ _ _ h2 ok2 (e1.trans e2) r2
theorem up_lc {σ : L2.St} {H : Hp} {Q : VK} (h : up K W (dLcM ti i tt te) σ H Q) : tLc (upI K W ti) (gName i) (upT K W0 tt) (up K W0 te) [i] σ H Q := by
  obtain ⟨G, M, δ, Q', X', ok, sl, h, hq, hx⟩ := h
  refine ⟨G, M, δ, _, X', ok, sl, h, fun items P M1 J H1 G1 h1 ok1 e1 it hz => fun D0 hD => ?_, hx⟩
  have gD := ok1.gnone hD
  refine ⟨fun k m H2 => m = items.length - k ∧ k ≤ items.length ∧ ∃ (G2 : Hp) (M2 : Mem) (acc : List D), Ok K H2 G2 M2 ∧ Same G1 G2 ∧ acc.length ≤ k ∧ M2 D0 = some (.lst acc) ∧
    lcL D0 i tt te (dwipe δ [i]) P (fun M2 => Q' (.obj D0) M2) (items.drop k) acc M2, ⟨items.length, by omega, Nat.zero_le _, G1, M1.set D0 (.lst []), [], ok1.write gD ⟨[], upd_same, .nil, Nat.zero_le _⟩, Same.refl _, Nat.le_refl _, Mem.set_same, h1 D0 (ok1.mnone hD)⟩, ?_⟩
  rintro k m H2 ⟨rfl, hk, G2, M2, acc, ok2, e2, ha, hm, hl⟩
  obtain ⟨st, go⟩ := it k H2 G2 M2 ok2 e2 (lcL_P hl)
  by_cases hlt : k < items.length
  · refine .inr ?_
    obtain ⟨g0, gy⟩ := go items[k] (by simp [hlt])
    refine ⟨g0, fun H' => k + 1 ≤ items.length ∧ ∃ (G2 : Hp) (M2 : Mem) (acc : List D), Ok K H' G2 M2 ∧ Same G1 G2 ∧ acc.length ≤ k + 1 ∧ M2 D0 = some (.lst acc) ∧
      lcL D0 i tt te (dwipe δ [i]) P (fun M2 => Q' (.obj D0) M2) (items.drop (k + 1)) acc M2, fun H' hn => ⟨items.length - (k + 1), by omega, rfl, hn.1, hn.2⟩, fun x H' y => ?_⟩
    obtain ⟨G3, ok3, e3, r3⟩ := gy x H' y
    have ed : items.drop k = items[k] :: items.drop (k + 1) := List.drop_eq_getElem_cons hlt
    rw [ed] at hl
    have hl := hl.2
    refine ⟨?_, G3, M2, (dwipe δ [i]).set i (some items[k]), _, _, ok3, ?_, hl, fun b M4 H4 G4 h4 ok4 e4 => ?_, WOk.bot⟩
    · show (((σ.set i none).set i (some x)).set i none) = σ.set i none
      rw [List.set_set, List.set_set]
    · exact Slots.set (.yes r3) i (Slots.wipe (sl.mono (e1.trans (e2.trans e3))) [i])
    · cases b with
      | false =>
        rw [if_neg Bool.false_ne_true]
        exact ⟨hlt, G4, M4, acc, ok4, e2.trans (e3.trans e4), by omega, h4.1, h4.2⟩
      | true =>
        rw [if_pos rfl]
        refine ⟨G4, M4, (dwipe δ [i]).set i (some items[k]), _, _, ok4, ?_, h4, fun d M5 v H5 G5 h5 ok5 e5 r5 => ?_, WOk.bot⟩
        · exact Slots.set (.yes (r3.mono e4)) i (Slots.wipe (sl.mono (e1.trans (e2.trans (e3.trans e4)))) [i])
        · obtain ⟨h5, h6⟩ := h5
          obtain ⟨g5, vs, hH, q, z⟩ := ok5.mem _ _ h5
          refine ⟨vs, hH, by rw [q.len]; omega, hlt, G5, _, _, ok5.write (m := .lst (acc ++ [d])) g5 ⟨_, upd_same, q.append (.one r5), by rw [List.length_append, List.length_singleton]; omega⟩, e2.trans (e3.trans (e4.trans e5)), by rw [List.length_append, List.length_singleton]; omega, Mem.set_same, h6⟩
  · have e : k = items.length := by omega
    subst e
    rw [List.drop_length] at hl
    exact .inl ⟨st (Nat.le_refl _), hq _ _ _ _ _ hl.2 ok2 (e1.trans e2) (.obj D0)⟩
variable {elt tg iter : Expr} {ifs : List Expr} {scope : Scope} {x : Str} {pos : Pos}
theorem pd_lcM (hc : X.calm = true) (hN : X.N.Nodup) (hi : PDI X W tg iter ti) (ok : BlkOk X.N X.env.scope scope [(x, i)])
    (hg : ∀ (s : Shared) (H : Hp) (C : Addr) (cl : List (Str × Addr)) (fp : List Addr), PG (X.blk s H scope (compEnvC scope cl C X.env) fp) tg (gName i)) (ht : ∀ (s : Shared) (H : Hp) (C : Addr) (cl : List (Str × Addr)) (fp : List Addr), PDTs (X.blk s H scope (compEnvC scope cl C X.env) fp) W0 ifs tt)
    (he : ∀ (s : Shared) (H : Hp) (C : Addr) (cl : List (Str × Addr)) (fp : List Addr), PD (X.blk s H scope (compEnvC scope cl C X.env) fp) W0 elt te) (hs : ∀ x, foldedSetIterable iter X.env x = pure x := by intro _; rfl) :
    PD X W (.ListComp elt [⟨tg, iter, ifs, 0⟩] scope pos) (dLcM ti i tt te) := PEw (pe_lc hc hN hi ok hg ht he hs) fun _ _ _ h => up_lc h
theorem pd_lc (hc : X.calm = true) (hN : X.N.Nodup) (hi : PDI X W tg iter ti) (ok : BlkOk X.N X.env.scope scope [(x, i)])
    (hg : ∀ (s : Shared) (H : Hp) (C : Addr) (cl : List (Str × Addr)) (fp : List Addr), PG (X.blk s H scope (compEnvC scope cl C X.env) fp) tg (gName i)) (ht : ∀ (s : Shared) (H : Hp) (C : Addr) (cl : List (Str × Addr)) (fp : List Addr), PDTs (X.blk s H scope (compEnvC scope cl C X.env) fp) W0 ifs tt)
    (he : ∀ (s : Shared) (H : Hp) (C : Addr) (cl : List (Str × Addr)) (fp : List Addr), PD (X.blk s H scope (compEnvC scope cl C X.env) fp) W0 elt te) (hs : ∀ x, foldedSetIterable iter X.env x = pure x := by intro _; rfl) :
    PD X W (.ListComp elt [⟨tg, iter, ifs, 0⟩] scope pos) (dLc ti i tt te) := pd_frz (pd_lcM hc hN hi ok hg ht he hs)
end

/-- a comprehension whose parts only read -/
theorem lcL_pure {D0 : Addr} {i : Nat} {tt : DT} {te : DE} {δ : DS} {P Q : Mem → Prop} {M : Mem} (hD : M D0 = none) (hP : ∀ M', M.Sub M' → P M') (p : D → Bool) (f : D → D) : ∀ {xs : List D} {acc : List D},
    (∀ x, x ∈ xs → ∀ M', M.Sub M' → ∀ Qb : Bool → Mem → Prop, Qb (p x) M' → tt (δ.set i (some x)) M' Qb fun _ _ _ => False) →
    (∀ x, x ∈ xs → p x = true → ∀ M', M.Sub M' → ∀ Qd : QD, Qd (f x) M' → te (δ.set i (some x)) M' Qd fun _ _ _ => False) →
    Q (M.set D0 (.lst (acc ++ (xs.filter p).map f))) → lcL D0 i tt te δ P Q xs acc (M.set D0 (.lst acc))
  | [], acc, _, _, h => by
    refine ⟨hP _ (Mem.sub_set hD), ?_⟩
    simpa using h
  | x :: xs, acc, h1, h2, h => by
    refine ⟨hP _ (Mem.sub_set hD), h1 x List.mem_cons_self _ (Mem.sub_set hD) _ ?_⟩
    cases e : p x with
    | true =>
      refine h2 x List.mem_cons_self e _ (Mem.sub_set hD) _ ⟨Mem.set_same, ?_⟩
      rw [Mem.set_set]
      refine lcL_pure hD hP p f (fun y hy => h1 y (List.mem_cons_of_mem _ hy)) (fun y hy => h2 y (List.mem_cons_of_mem _ hy)) ?_
      rw [List.filter_cons_of_pos e, List.map_cons] at h
      rw [List.append_assoc]
      exact h
    | false =>
      refine ⟨Mem.set_same, lcL_pure hD hP p f (fun y hy => h1 y (List.mem_cons_of_mem _ hy)) (fun y hy => h2 y (List.mem_cons_of_mem _ hy)) ?_⟩
      rw [List.filter_cons_of_neg (by rw [e]; exact Bool.false_ne_true)] at h
      exact h
end DL

/-! The data layer: statements -/
namespace DL
open PySem PySem.Spec PyProof.Rows L2

theorem EOk.mono {K : PySem.W.Frag} {W : WX} {G G1 : Hp} {E : DEnds} {D' : Ends} (h : EOk K W G E D') (e : Same G G1) : EOk K W G1 E D' :=
  ⟨fun δ M σ H G' a b s => h.nx δ M σ H G' a b (e.trans s), fun d M v H G' a b s => h.rt d M v H G' a b (e.trans s), fun δ M σ H G' a b s => h.bk δ M σ H G' a b (e.trans s), fun δ M σ H G' a b s => h.ct δ M σ H G' a b (e.trans s), h.xc.mono e⟩

def dNext : DSt := fun E δ M => E.nx δ M
def dSeq (t u : DSt) : DSt := fun E δ M => t { E with nx := u E } δ M
def dExpr (te : DE) : DSt := fun E δ M => te δ M (fun _ M1 => E.nx δ M1) E.xc
def dRet (te : DE) : DSt := fun E δ M => te δ M E.rt E.xc
def dIfS (c : DT) (t u : DSt) : DSt := fun E δ M => c δ M (fun b M1 => cond b (t E δ M1) (u E δ M1)) E.xc
def dSet (i : Nat) (te : DE) : DSt := fun E δ M => te δ M (fun d M1 => E.nx (δ.set i (some d)) M1) E.xc
def dCont : DSt := fun E δ M => E.ct δ M
def dRaise (C : Addr) : DSt := fun E δ M => E.xc C δ M
/-- code that is never come to -/
def dNever : DSt := fun _ _ _ => False
section
variable {X : Cx} {W : WX} {K : PySem.W.Frag} {st : Stmt} {rest : List Stmt} {t u : DSt} {e : Expr} {te : DE} {pos : Pos}
theorem pdss_nil : PDSs X W [] dNext := PSsw pss_nil fun D σ H ⟨G, M, δ, E, ok, sl, h, eo⟩ => eo.nx _ _ _ _ _ h ok (Same.refl _) sl
theorem pdss_cons (h1 : PDS X W st t) (h2 : PDSs X W rest u) : PDSs X W (st :: rest) (dSeq t u) :=
  PSsw (pss_cons h1 h2) fun D σ H ⟨G, M, δ, E, ok, sl, h, eo⟩ => ⟨G, M, δ, _, ok, sl, h, ⟨fun δ' M' σ' H' G' h' ok' e' sl' => ⟨G', M', δ', E, ok', sl', h', eo.mono e'⟩, eo.rt, eo.bk, eo.ct, eo.xc⟩⟩
theorem pdss_one (h1 : PDS X W st t) : PDSs X W [st] t := pss_one h1
theorem pds_expr (he : PD X W e te) (hs : swapsWith e none pos.line X.env = pure false := by rfl) : PDS X W (.Expr e pos) (dExpr te) :=
  PSw (ps_expr he hs) fun D σ H ⟨G, M, δ, E, ok, sl, h, eo⟩ => ⟨G, M, δ, _, _, ok, sl, h, fun d M1 v H1 G1 h1 ok1 e1 r1 => eo.nx _ _ _ _ _ h1 ok1 e1 (sl.mono e1), eo.xc⟩
theorem pds_ret (he : PD X W e te) : PDS X W (.Return (some e) pos) (dRet te) :=
  PSw (ps_ret he) fun D σ H ⟨G, M, δ, E, ok, sl, h, eo⟩ => ⟨G, M, δ, _, _, ok, sl, h, fun d M1 v H1 G1 h1 ok1 e1 r1 => eo.rt _ _ _ _ _ h1 ok1 e1 r1, eo.xc⟩
theorem pds_if {c : Expr} {a b : List Stmt} {tc : DT} (hc : PDT X W c tc) (ha : PDSs X W a t) (hb : PDSs X W b u) : PDS X W (.If c a b pos) (dIfS tc t u) :=
  PSw (ps_if hc ha hb) fun D σ H ⟨G, M, δ, E, ok, sl, h, eo⟩ => ⟨G, M, δ, _, _, ok, sl, h, fun d M1 H1 G1 h1 ok1 e1 => by
    cases d with
    | true => rw [if_pos rfl]; exact ⟨G1, M1, δ, E, ok1, sl.mono e1, h1, eo.mono e1⟩
    | false => rw [if_neg Bool.false_ne_true]; exact ⟨G1, M1, δ, E, ok1, sl.mono e1, h1, eo.mono e1⟩, eo.xc⟩
theorem pds_pass : PDS X W (.Pass pos) dNext := PSw ps_pass fun D σ H ⟨G, M, δ, E, ok, sl, h, eo⟩ => eo.nx _ _ _ _ _ h ok (Same.refl _) sl
theorem pds_cont : PDS X W (.Continue pos) dCont := PSw ps_continue fun D σ H ⟨G, M, δ, E, ok, sl, h, eo⟩ => eo.ct _ _ _ _ _ h ok (Same.refl _) sl
theorem pds_never : PDS X W st dNever := PSw ps_never fun D σ H ⟨G, M, δ, E, ok, sl, h, eo⟩ => h.elim
/-- name = value -/
theorem pds_set {i : Nat} {x : Str} {pos' : Pos} (hN : X.N.Nodup) (hi : X.N[i]? = some x) (hx : Loc X.env.scope x) (he : PD X W e te) (hs : swapsWith e (some (.Name x pos')) pos.line X.env = pure false := by rfl) (hf : X.fn x = true ∨ X.env.scope.names.lookup x = some .local := by first | exact .inl rfl | exact .inr rfl | assumption) :
    PDS X W (.Assign [.Name x pos'] e pos) (dSet i te) :=
  PSw (ps_set hN hi hx he hs hf) fun D σ H ⟨G, M, δ, E, ok, sl, h, eo⟩ => ⟨G, M, δ, _, _, ok, sl, h, fun d M1 v H1 G1 h1 ok1 e1 r1 => eo.nx _ _ _ _ _ h1 ok1 e1 (Slots.set (.yes r1) i (sl.mono e1)), eo.xc⟩
/-- name = [..] on one line, the name a local -/
theorem pds_setLcM {i j : Nat} {y x : Str} {py : Pos} {elt tg iter : Expr} {ifs : List Expr} {scope : Scope} {pos spos : Pos} {ti : DI} {tt : DT} {te : DE} (hc : X.calm = true) (hN : X.N.Nodup) (hy : X.N[i]? = some y) (hyl : X.env.scope.names.lookup y = some .local)
    (hsw : swapsWith (.ListComp elt [⟨tg, iter, ifs, 0⟩] scope pos) (some (.Name y py)) spos.line X.env = pure true) (hi : PDI X W tg iter ti) (ok : BlkOk X.N X.env.scope scope [(x, j)])
    (hg : ∀ (s : Shared) (H : Hp) (C : Addr) (cl : List (Str × Addr)) (fp : List Addr), PG (X.blk s H scope (compEnvC scope cl C X.env) fp) tg (gName j)) (ht : ∀ (s : Shared) (H : Hp) (C : Addr) (cl : List (Str × Addr)) (fp : List Addr), PDTs (X.blk s H scope (compEnvC scope cl C X.env) fp) W0 ifs tt)
    (he : ∀ (s : Shared) (H : Hp) (C : Addr) (cl : List (Str × Addr)) (fp : List Addr), PD (X.blk s H scope (compEnvC scope cl C X.env) fp) W0 elt te) (hs : ∀ x, foldedSetIterable iter X.env x = pure x := by intro _; rfl) :
    PDS X W (.Assign [.Name y py] (.ListComp elt [⟨tg, iter, ifs, 0⟩] scope pos) spos) (dSet i (dLcM ti j tt te)) :=
  PSw (ps_setLc hc hN hy hyl hsw hi ok hg ht he hs) fun D σ H ⟨G, M, δ, E, ok, sl, h, eo⟩ => up_lc (W := W) ⟨G, M, δ, _, _, ok, sl, h, fun d M1 v H1 G1 h1 ok1 e1 r1 => eo.nx _ _ _ _ _ h1 ok1 e1 (Slots.set (.yes r1) i (sl.mono e1)), eo.xc⟩
theorem pds_setLc {i j : Nat} {y x : Str} {py : Pos} {elt tg iter : Expr} {ifs : List Expr} {scope : Scope} {pos spos : Pos} {ti : DI} {tt : DT} {te : DE} (hc : X.calm = true) (hN : X.N.Nodup) (hy : X.N[i]? = some y) (hyl : X.env.scope.names.lookup y = some .local)
    (hsw : swapsWith (.ListComp elt [⟨tg, iter, ifs, 0⟩] scope pos) (some (.Name y py)) spos.line X.env = pure true) (hi : PDI X W tg iter ti) (ok : BlkOk X.N X.env.scope scope [(x, j)])
    (hg : ∀ (s : Shared) (H : Hp) (C : Addr) (cl : List (Str × Addr)) (fp : List Addr), PG (X.blk s H scope (compEnvC scope cl C X.env) fp) tg (gName j)) (ht : ∀ (s : Shared) (H : Hp) (C : Addr) (cl : List (Str × Addr)) (fp : List Addr), PDTs (X.blk s H scope (compEnvC scope cl C X.env) fp) W0 ifs tt)
    (he : ∀ (s : Shared) (H : Hp) (C : Addr) (cl : List (Str × Addr)) (fp : List Addr), PD (X.blk s H scope (compEnvC scope cl C X.env) fp) W0 elt te) (hs : ∀ x, foldedSetIterable iter X.env x = pure x := by intro _; rfl) :
    PDS X W (.Assign [.Name y py] (.ListComp elt [⟨tg, iter, ifs, 0⟩] scope pos) spos) (dSet i (dLc ti j tt te)) :=
  PSw (ps_setLc hc hN hy hyl hsw hi ok hg ht he hs) fun D σ H ⟨G, M, δ, E, ok, sl, h, eo⟩ => up_lc (W := W) (up_frz ⟨G, M, δ, _, _, ok, sl, h, fun d M1 v H1 G1 h1 ok1 e1 r1 => eo.nx _ _ _ _ _ h1 ok1 e1 (Slots.set (.yes r1) i (sl.mono e1)), eo.xc⟩)
end

/-! ### d[k] = v -/
def elD : Option MO → (List (Str × D) → Prop) → Prop
  | some (.dic kvs), F => F kvs
  | _, _ => False
theorem elD_of {o : Option MO} {F : List (Str × D) → Prop} (h : elD o F) : ∃ ds, o = some (.dic ds) ∧ F ds := by
  cases o with
  | none => exact h.elim
  | some m => cases m with
    | dic ds => exact ⟨ds, rfl, h⟩
    | lst _ => exact h.elim
    | ins _ _ => exact h.elim
def dput : List (Str × D) → Str → D → List (Str × D)
  | [], k, d => [(k, d)]
  | (k', d') :: r, k, d => if k' = k then (k, d) :: r else (k', d') :: dput r k d
def putDic (x k v : D) (M : Mem) (F : Mem → Prop) : Prop := match x, k with
  | .obj a, .str s => elD (M a) fun kvs => few 99 (kvs.map (·.2)) ∧ (kvs.map (·.1)).Nodup ∧ F (M.set a (.dic (dput kvs s v)))
  | _, _ => False
def dPut (td tk tv : DE) : DSt := fun E δ M => tv δ M (fun v M1 => td δ M1 (fun x M2 => tk δ M2 (fun k M3 => putDic x k v M3 fun M4 => E.nx δ M4) E.xc) E.xc) E.xc
section
variable {X : Cx} {W : WX} {K : PySem.W.Frag} {o i value : Expr} {td tk tv : DE} {pos pos' : Pos}
theorem dput_rel {G : Hp} {s : Str} {d : D} {v : V} (rv : Rep K G v d) : ∀ {ds : List (Str × D)} {kv : List (Key × V)}, kv.map (·.1) = ds.map (fun p => (Sum.inr p.1 : Key)) → RepL K G (kv.map (·.2)) (ds.map (·.2)) → (ds.map (·.1)).Nodup →
    (putK kv (Sum.inr s) v).map (·.1) = (dput ds s d).map (fun p => (Sum.inr p.1 : Key)) ∧ RepL K G ((putK kv (Sum.inr s) v).map (·.2)) ((dput ds s d).map (·.2)) := by
  have nomatch_ : ∀ {ds : List (Str × D)} {kv : List (Key × V)}, kv.map (·.1) = ds.map (fun p => (Sum.inr p.1 : Key)) → s ∉ ds.map (·.1) → valV kv (Sum.inr s) = none := by
    intro ds
    induction ds with
    | nil => intro kv h _; cases kv with
      | nil => rfl
      | cons _ _ => cases h
    | cons p r ih =>
      intro kv h hn
      cases kv with
      | nil => rfl
      | cons q t =>
        simp only [List.map_cons, List.cons.injEq] at h
        simp only [List.map_cons, List.mem_cons, not_or] at hn
        rw [valV_neg (by rw [h.1]; exact fun z => hn.1 (Sum.inr.inj z).symm)]
        exact ih h.2 hn.2
  have mapsame : ∀ {ds : List (Str × D)} {kv : List (Key × V)}, kv.map (·.1) = ds.map (fun p => (Sum.inr p.1 : Key)) → s ∉ ds.map (·.1) → kv.map (fun kv : Key × V => if kv.1 = Sum.inr s then (kv.1, v) else kv) = kv := by
    intro ds
    induction ds with
    | nil => intro kv h _; cases kv with
      | nil => rfl
      | cons _ _ => cases h
    | cons p r ih =>
      intro kv h hn
      cases kv with
      | nil => rfl
      | cons q t =>
        simp only [List.map_cons, List.cons.injEq] at h
        simp only [List.map_cons, List.mem_cons, not_or] at hn
        rw [List.map_cons, if_neg (by rw [h.1]; exact fun z => hn.1 (Sum.inr.inj z).symm), ih h.2 hn.2]
  intro ds
  induction ds with
  | nil =>
    intro kv h r _
    cases kv with
    | nil =>
      have : putK ([] : List (Key × V)) (Sum.inr s) v = [(Sum.inr s, v)] := rfl
      rw [this]
      exact ⟨rfl, .one rv⟩
    | cons _ _ => cases h
  | cons p r ih =>
    intro kv h q nd
    cases kv with
    | nil => cases h
    | cons y t =>
      obtain ⟨k, d'⟩ := p
      obtain ⟨k', v'⟩ := y
      simp only [List.map_cons, List.cons.injEq] at h
      obtain ⟨h1, h2⟩ := h
      subst h1
      have nd' := List.nodup_cons.mp nd
      cases q with
      | cons q1 q2 =>
        unfold dput
        by_cases e : k = s
        · subst e
          rw [if_pos rfl]
          have hp : putK ((Sum.inr k, v') :: t) (Sum.inr k) v = (Sum.inr k, v) :: t := by
            unfold putK
            rw [if_pos (by simp)]
            rw [List.map_cons, if_pos rfl, mapsame h2 nd'.1]
          rw [hp]
          exact ⟨by simp only [List.map_cons]; rw [h2], .cons rv q2⟩
        · rw [if_neg e]
          obtain ⟨i1, i2⟩ := ih h2 q2 nd'.2
          have hp : putK ((Sum.inr k, v') :: t) (Sum.inr s) v = (Sum.inr k, v') :: putK t (Sum.inr s) v := by
            have ne : ¬ (Sum.inr k : Key) = Sum.inr s := fun z => e (Sum.inr.inj z)
            unfold putK
            rw [List.any_cons, decide_eq_false ne, Bool.false_or]
            split
            · rw [List.map_cons, if_neg ne]
            · rfl
          rw [hp]
          exact ⟨by simp only [List.map_cons]; rw [i1], .cons q1 i2⟩
theorem dput_len (ds : List (Str × D)) (s : Str) (d : D) : (dput ds s d).length ≤ ds.length + 1 := by
  induction ds with
  | nil => exact Nat.le_refl _
  | cons p r ih =>
    obtain ⟨k, d'⟩ := p
    unfold dput
    split
    · simp
    · simp only [List.length_cons]; omega
theorem pds_put (hu : X.A.units + 1 < cLine) (ho : PD X W o td) (hi : PD X W i tk) (hv : PD X W value tv) (hs : swapsWith value (some (.Subscript o i pos')) pos.line X.env = pure false := by rfl) :
    PDS X W (.Assign [.Subscript o i pos'] value pos) (dPut td tk tv) :=
  PSw (ps_dput hu ho hi hv hs) fun D σ H ⟨G, M, δ, E, ok, sl, h, eo⟩ => ⟨G, M, δ, _, _, ok, sl, h, fun d M1 v H1 G1 h1 ok1 e1 r1 => ⟨G1, M1, δ, _, _, ok1, sl.mono e1, h1, fun x M2 xv H2 G2 h2 ok2 e2 r2 =>
    ⟨G2, M2, δ, _, _, ok2, (sl.mono e1).mono e2, h2, fun k M3 kv H3 G3 h3 ok3 e3 r3 => by
      unfold putDic at h3
      split at h3
      · obtain ⟨kvs, m, f, nd, h4⟩ := elD_of h3
        obtain ⟨g, kk, hH, k1, q⟩ := ok3.mem _ _ m
        cases r2
        cases r3
        have hl : kk.length = kvs.length := by have := congrArg List.length k1; simpa using this
        have hz := few_le f
        rw [List.length_map] at hz
        obtain ⟨i1, i2⟩ := dput_rel ((r1.mono e2).mono e3) k1 q nd
        exact ⟨_, _, rfl, .inl ⟨kk, .inr _, hH, rfl, small1000 (by omega), rfl⟩, eo.nx _ _ _ _ _ h4 (ok3.write (m := .dic _) g ⟨_, upd_same, i1, i2⟩) (e1.trans (e2.trans e3)) (sl.mono (e1.trans (e2.trans e3)))⟩
      · exact h3.elim, eo.xc.mono (e1.trans e2)⟩, eo.xc.mono e1⟩, eo.xc⟩
end

/-! ### the fields of an instance -/
def elI (C : Addr) : Option MO → (List (Str × D) → Prop) → Prop
  | some (.ins C' fs), F => C' = C ∧ F fs
  | _, _ => False
theorem elI_of {C : Addr} {o : Option MO} {F : List (Str × D) → Prop} (h : elI C o F) : ∃ ds, o = some (.ins C ds) ∧ F ds := by
  cases o with
  | none => exact h.elim
  | some m => cases m with
    | ins C' ds => obtain ⟨e, h⟩ := h; subst e; exact ⟨ds, rfl, h⟩
    | lst _ => exact h.elim
    | dic _ => exact h.elim
def getFld (C : Addr) (f : Str) (x : D) (M : Mem) (Q : QD) : Prop := match x with
  | .obj a => elI C (M a) fun fs => el (look fs f) fun d => Q d M
  | _ => False
def dFld (C : Addr) (f : Str) (t : DE) : DE := fun δ M Q X => t δ M (fun x M1 => getFld C f x M1 Q) X
def setFld (C : Addr) (f : Str) (x v : D) (M : Mem) (F : Mem → Prop) : Prop := match x with
  | .obj a => elI C (M a) fun fs => few 99 (fs.map (·.2)) ∧ F (M.set a (.ins C (dput fs f v)))
  | _ => False
def dFldS (C : Addr) (f : Str) (to tv : DE) : DSt := fun E δ M => tv δ M (fun v M1 => to δ M1 (fun x M2 => setFld C f x v M2 fun M3 => E.nx δ M3) E.xc) E.xc
section
variable {X : Cx} {W : WX} {K : PySem.W.Frag} {o e value : Expr} {te to tv : DE} {pos pos' : Pos} {C : Addr} {f : Str}
theorem look_flds {G : Hp} {x : Str} {d : D} : ∀ {ds : List (Str × D)} {fv : List (Str × V)}, fv.map (·.1) = ds.map (·.1) → RepL K G (fv.map (·.2)) (ds.map (·.2)) → look ds x = some d → ∃ v, fv.lookup x = some v ∧ Rep K G v d
  | [], _, _, _, h => by cases h
  | (k, d') :: r, [], h, _, _ => by cases h
  | (k, d') :: r, (k', v') :: r', h1, h2, h3 => by
    simp only [List.map_cons, List.cons.injEq] at h1
    obtain ⟨e1, h1⟩ := h1
    subst e1
    cases h2 with
    | cons q t =>
      unfold look at h3
      by_cases e : k' = x
      · rw [if_pos e] at h3; cases h3
        exact ⟨v', by subst e; simp [List.lookup], q⟩
      · rw [if_neg e] at h3
        obtain ⟨v, e1, e2⟩ := look_flds h1 t h3
        refine ⟨v, ?_, e2⟩
        have : (x == k') = false := beq_eq_false_iff_ne.mpr (Ne.symm e)
        simp only [List.lookup, this]
        exact e1
theorem look_flds_none {x : Str} : ∀ {ds : List (Str × D)} {fv : List (Str × V)}, fv.map (·.1) = ds.map (·.1) → look ds x = none → fv.lookup x = none
  | [], [], _, _ => rfl
  | [], _ :: _, h, _ => by cases h
  | (k, d') :: r, [], h, _ => by cases h
  | (k, d') :: r, (k', v') :: r', h1, h3 => by
    simp only [List.map_cons, List.cons.injEq] at h1
    obtain ⟨e1, h1⟩ := h1
    subst e1
    unfold look at h3
    by_cases e : k' = x
    · rw [if_pos e] at h3; cases h3
    · rw [if_neg e] at h3
      have : (x == k') = false := beq_eq_false_iff_ne.mpr (Ne.symm e)
      simp only [List.lookup, this]
      exact look_flds_none h1 h3
theorem putF_rel {G : Hp} {s : Str} {d : D} {v : V} (rv : Rep K G v d) : ∀ {ds : List (Str × D)} {fv : List (Str × V)}, fv.map (·.1) = ds.map (·.1) → RepL K G (fv.map (·.2)) (ds.map (·.2)) →
    (putF s v fv).map (·.1) = (dput ds s d).map (·.1) ∧ RepL K G ((putF s v fv).map (·.2)) ((dput ds s d).map (·.2))
  | [], [], _, _ => ⟨rfl, .one rv⟩
  | [], _ :: _, h, _ => by cases h
  | (k, d') :: r, [], h, _ => by cases h
  | (k, d') :: r, (k', v') :: r', h1, h2 => by
    simp only [List.map_cons, List.cons.injEq] at h1
    obtain ⟨e1, h1⟩ := h1
    subst e1
    cases h2 with
    | cons q t =>
      unfold putF dput
      by_cases e : k' = s
      · rw [if_pos e, if_pos e]
        exact ⟨by simp only [List.map_cons]; rw [h1, e], .cons rv t⟩
      · rw [if_neg e, if_neg e]
        obtain ⟨i1, i2⟩ := putF_rel rv h1 t
        exact ⟨by simp only [List.map_cons]; rw [i1], .cons q i2⟩
theorem pd_fld (c : Cls X.K C) (n : NoAttr X.K C f) (he : PD X W e te) (hb : attributeBase e f X.env (eval e X.env) = eval e X.env := by rfl) : PD X W (.Attribute e f pos) (dFld C f te) :=
  PEw (pe_fld he hb) fun σ H Q ⟨G, M, δ, Q', X', ok, sl, h, hq, hx⟩ => ⟨G, M, δ, _, X', ok, sl, h, fun d M1 v H1 G1 h1 ok1 e1 r1 => by
    unfold getFld at h1
    split at h1
    · obtain ⟨fs, m, h2⟩ := elI_of h1
      obtain ⟨d, el, h2⟩ := el_of h2
      obtain ⟨g, dx, fv, hH, k, q⟩ := ok1.mem _ _ m
      cases r1
      obtain ⟨z, ez, rz⟩ := look_flds k q el
      exact ⟨_, C, dx, fv, z, rfl, hH, c, n, ez, hq _ _ _ _ _ h2 ok1 e1 rz⟩
    · exact h1.elim, hx⟩
theorem pds_fld (c : Cls X.K C) (n : NoAttr X.K C f) (ha : PD X W o to) (hv : PD X W value tv) (hs : swapsWith value (some (.Attribute o f pos')) pos.line X.env = pure false := by rfl) : PDS X W (.Assign [.Attribute o f pos'] value pos) (dFldS C f to tv) :=
  PSw (ps_fld ha hv hs) fun D σ H ⟨G, M, δ, E, ok, sl, h, eo⟩ => ⟨G, M, δ, _, _, ok, sl, h, fun d M1 v H1 G1 h1 ok1 e1 r1 => ⟨G1, M1, δ, _, _, ok1, sl.mono e1, h1, fun x M2 xv H2 G2 h2 ok2 e2 r2 => by
      unfold setFld at h2
      split at h2
      · obtain ⟨fs, m, f, h3⟩ := elI_of h2
        obtain ⟨g, dx, fv, hH, k, q⟩ := ok2.mem _ _ m
        cases r2
        have hl : fv.length = fs.length := by have := congrArg List.length k; simpa using this
        have hz := few_le f
        rw [List.length_map] at hz
        obtain ⟨i1, i2⟩ := putF_rel (r1.mono e2) k q
        exact ⟨_, C, dx, fv, rfl, hH, c, n, by omega, eo.nx _ _ _ _ _ h3 (ok2.write (m := .ins C _) g ⟨dx, _, upd_same, i1, i2⟩) (e1.trans e2) (sl.mono (e1.trans e2))⟩
      · exact h2.elim, eo.xc.mono e1⟩, eo.xc⟩
end

/-! ### for, while -/
abbrev DG := D → DS → Mem → (DS → Mem → Prop) → Prop
def upG (K : PySem.W.Frag) (t : DG) : TG := fun v σ H Q => ∃ (G : Hp) (M : Mem) (δ : DS) (d : D) (Q' : DS → Mem → Prop), Ok K H G M ∧ Slots K G σ δ ∧ Rep K G v d ∧ t d δ M Q' ∧ (∀ δ' M' σ' H' G', Q' δ' M' → Ok K H' G' M' → Same G G' → Slots K G' σ' δ' → Q σ' H')
abbrev PDG (X : Cx) (tg : Expr) (t : DG) : Prop := PG X tg (upG X.K t)
theorem PGw {X : Cx} {e : Expr} {t t' : TG} (h : PG X e t) (w : ∀ v σ H Q, t' v σ H Q → t v σ H Q) : PG X e t' := ⟨fun pins s σ H v u Q I r q => h.run pins s σ H v u Q I r (w v σ H Q q)⟩
def dgName (i : Nat) : DG := fun d δ M Q => Q (δ.set i (some d)) M
def two (d : D) (F : D → D → Prop) : Prop := match d with
  | .tup [x, y] => F x y
  | _ => False
def dgPair (i j : Nat) : DG := fun d δ M Q => two d fun x y => Q ((δ.set i (some x)).set j (some y)) M
def forL (g : DG) (tb : DSt) (E : DEnds) : List D → DS → Mem → Prop
  | [], δ, M => E.nx δ M
  | x :: xs, δ, M => g x δ M fun δ2 M2 => tb { E with nx := forL g tb E xs, ct := forL g tb E xs, bk := E.nx } δ2 M2
/-- by what holds between two turns -/
def forI (P : Mem → Prop) (g : DG) (tb : DSt) (E : DEnds) (items : List D) (δ : DS) (M : Mem) : Prop := ∃ Iv : Nat → DS → Mem → Prop, Iv 0 δ M ∧
  (∀ k x δ M, items[k]? = some x → Iv k δ M → P M ∧ g x δ M fun δ2 M2 => tb { E with nx := Iv (k + 1), ct := Iv (k + 1), bk := E.nx } δ2 M2) ∧ ∀ δ M, Iv items.length δ M → P M ∧ E.nx δ M
theorem forI_of {g : DG} {tb : DSt} {E : DEnds} {items : List D} {δ : DS} {M : Mem} (h : forL g tb E items δ M) : forI still g tb E items δ M := by
  refine ⟨fun k δ M => forL g tb E (items.drop k) δ M, h, fun k x δ M hx hk => ⟨trivial, ?_⟩, fun δ M hk => ⟨trivial, ?_⟩⟩
  · obtain ⟨hl, e⟩ := List.getElem?_eq_some_iff.mp hx
    have ed : items.drop k = items[k] :: items.drop (k + 1) := List.drop_eq_getElem_cons hl
    have hk : forL g tb E (items.drop k) δ M := hk
    rw [ed, e] at hk
    exact hk
  · have hk : forL g tb E (items.drop items.length) δ M := hk
    rw [List.drop_length] at hk
    exact hk
def dFor (ti : DI) (g : DG) (tb : DSt) : DSt := fun E δ M => ti δ M (fun items P M1 => forI P g tb E items δ M1) E.xc
def dWhile (c : DT) (tb : DSt) : DSt := fun E δ M => ∃ Iv : Nat → DS → Mem → Prop, (∃ m, Iv m δ M) ∧ ∀ m δ M, Iv m δ M →
  c δ M (fun b M1 => cond b (tb { E with nx := fun δ' M' => ∃ m', m' < m ∧ Iv m' δ' M', ct := fun δ' M' => ∃ m', m' < m ∧ Iv m' δ' M', bk := E.nx } δ M1) (E.nx δ M1)) E.xc
section
variable {X : Cx} {W : WX} {K : PySem.W.Frag} {pos : Pos}
theorem pdg_name {i : Nat} {x : Str} (hN : X.N.Nodup) (hi : X.N[i]? = some x) (hx : Loc X.env.scope x) (hf : X.fn x = true ∨ X.env.scope.names.lookup x = some .local := by first | exact .inl rfl | exact .inr rfl | assumption) : PDG X (.Name x pos) (dgName i) :=
  PGw (pg_name hN hi hx hf) fun v σ H Q ⟨G, M, δ, d, Q', ok, sl, r, h, hq⟩ => hq _ _ _ _ _ h ok (Same.refl _) (Slots.set (.yes r) i sl)
theorem pdg_pair {i j : Nat} {x y : Str} {p1 p2 : Pos} {k : Nat} (hc : X.calm = true) (hN : X.N.Nodup) (hi : X.N[i]? = some x) (hx : Loc X.env.scope x) (hj : X.N[j]? = some y) (hy : Loc X.env.scope y)
    (hn : (assignEach [.Name x p1, .Name y p2] X.env).length = 2 := by rfl) (hst : (assignEach [.Name x p1, .Name y p2] X.env).findIdx? (·.1) = none := by rfl)
    (h1 : (assignEach [.Name x p1, .Name y p2] X.env).map (·.2) = assign (.Name x p1) X.env :: (assignEach [.Name y p2] X.env).map (·.2) := by rfl)
    (h2 : (assignEach [.Name y p2] X.env).map (·.2) = assign (.Name y p2) X.env :: (assignEach [] X.env).map (·.2) := by rfl)
    (hf : X.fn x = true ∨ X.env.scope.names.lookup x = some .local := by first | exact .inl rfl | exact .inr rfl | assumption) (hf2 : X.fn y = true ∨ X.env.scope.names.lookup y = some .local := by first | exact .inl rfl | exact .inr rfl | assumption) : PDG X (.Tuple [.Name x p1, .Name y p2] k pos) (dgPair i j) :=
  PGw (pg_tup hc (pgs_cons (pg_name hN hi hx hf) (pgs_cons (pg_name hN hj hy hf2) pgs_nil h2) h1) hn hst) fun v σ H Q ⟨G, M, δ, d, Q', ok, sl, r, h, hq⟩ => by
    unfold dgPair two at h
    split at h
    · cases r with
      | tup hg q z =>
        cases q with
        | cons q1 q2 => cases q2 with
          | cons q2 q3 =>
            cases q3
            refine ⟨_, _, rfl, SqT.of (ok.sub _ _ hg), rfl, _, _, rfl, _, _, rfl, rfl, ?_⟩
            exact hq _ _ _ _ _ h ok (Same.refl _) (Slots.set (.yes q2) j (Slots.set (.yes q1) i sl))
    · exact h.elim
theorem pds_for {tg iter : Expr} {body : List Stmt} {ti : DI} {g : DG} {tb : DSt} (hp : PassesOwn (model X.prog X.w) X.A X.env X.xe) (hc : X.calm = true) (hi : PDI X W tg iter ti) (hg : PDG X tg g) (hb : PDSs X W body tb)
    (hs : ∀ x, foldedSetIterable iter X.env x = pure x := by intro _; rfl) : PDS X W (.For tg iter body [] pos) (dFor ti g tb) :=
  PSw (ps_for hp hc hi hg hb hs) fun D σ H ⟨G, M, δ, E, ok, sl, h, eo⟩ => ⟨G, M, δ, _, _, ok, sl, h, fun items P M1 J H1 G1 h1 ok1 e1 it hz => by
    obtain ⟨Iv, i0, hst, hend⟩ := h1
    refine ⟨fun k m σ H2 => m = items.length - k ∧ k ≤ items.length ∧ ∃ (G2 : Hp) (M2 : Mem) (δ2 : DS), Ok X.K H2 G2 M2 ∧ Same G1 G2 ∧ Slots X.K G2 σ δ2 ∧ Iv k δ2 M2,
      ⟨items.length, by omega, Nat.zero_le _, G1, M1, δ, ok1, Same.refl _, sl.mono e1, i0⟩, ?_⟩
    rintro k m σ2 H2 ⟨rfl, hk, G2, M2, δ2, ok2, e2, sl2, hl⟩
    by_cases hlt : k < items.length
    · refine .inr ?_
      obtain ⟨hP, hl⟩ := hst k items[k] δ2 M2 (by simp [hlt]) hl
      obtain ⟨st, go⟩ := it k H2 G2 M2 ok2 e2 hP
      obtain ⟨g0, gy⟩ := go items[k] (by simp [hlt])
      refine ⟨g0, fun σ' H' => k + 1 ≤ items.length ∧ ∃ (G2 : Hp) (M2 : Mem) (δ2 : DS), Ok X.K H' G2 M2 ∧ Same G1 G2 ∧ Slots X.K G2 σ' δ2 ∧ Iv (k + 1) δ2 M2, fun σ' H' hn => ⟨items.length - (k + 1), by omega, rfl, hn.1, hn.2⟩, fun x H' y => ?_⟩
      obtain ⟨G3, ok3, e3, r3⟩ := gy x H' y
      refine ⟨G3, M2, δ2, items[k], _, ok3, sl2.mono e3, r3, hl, fun δ4 M4 σ4 H4 G4 h4 ok4 e4 sl4 => ?_⟩
      have ex := e1.trans (e2.trans (e3.trans e4))
      refine ⟨G4, M4, δ4, _, ok4, sl4, h4, ⟨fun δ5 M5 σ5 H5 G5 h5 ok5 e5 sl5 => ⟨hlt, G5, M5, δ5, ok5, e2.trans (e3.trans (e4.trans e5)), sl5, h5⟩, fun d M v H G' h ok s => eo.rt d M v H G' h ok (ex.trans s), fun δ5 M5 σ5 H5 G5 h5 ok5 e5 sl5 => eo.nx _ _ _ _ _ h5 ok5 (ex.trans e5) sl5,
        fun δ5 M5 σ5 H5 G5 h5 ok5 e5 sl5 => ⟨hlt, G5, M5, δ5, ok5, e2.trans (e3.trans (e4.trans e5)), sl5, h5⟩, eo.xc.mono ex⟩⟩
    · have e : k = items.length := by omega
      subst e
      obtain ⟨hP, hl⟩ := hend δ2 M2 hl
      obtain ⟨st, go⟩ := it items.length H2 G2 M2 ok2 e2 hP
      exact .inl ⟨st (Nat.le_refl _), eo.nx _ _ _ _ _ hl ok2 (e1.trans e2) sl2⟩, eo.xc⟩
theorem pds_while {c : Expr} {body : List Stmt} {tc : DT} {tb : DSt} (hp : PassesOwn (model X.prog X.w) X.A X.env X.xe) (hc : PDT X W c tc) (hb : PDSs X W body tb) : PDS X W (.While c body [] pos) (dWhile tc tb) :=
  PSw (ps_while hp hc hb) fun D σ H ⟨G, M, δ, E, ok, sl, ⟨Iv, ⟨m0, h0⟩, hs⟩, eo⟩ => by
    refine ⟨fun m σ H => ∃ (G2 : Hp) (M2 : Mem) (δ2 : DS), Ok X.K H G2 M2 ∧ Same G G2 ∧ Slots X.K G2 σ δ2 ∧ Iv m δ2 M2, ⟨m0, G, M, δ, ok, Same.refl _, sl, h0⟩, ?_⟩
    rintro m σ2 H2 ⟨G2, M2, δ2, ok2, e2, sl2, hi⟩
    refine ⟨G2, M2, δ2, _, _, ok2, sl2, hs m δ2 M2 hi, fun b M3 H3 G3 h3 ok3 e3 => ?_, eo.xc.mono e2⟩
    cases b with
    | false => rw [if_neg Bool.false_ne_true]; exact eo.nx _ _ _ _ _ h3 ok3 (e2.trans e3) (sl2.mono e3)
    | true =>
      rw [if_pos rfl]
      have ex := e2.trans e3
      refine ⟨fun σ' H' => ∃ m', m' < m ∧ ∃ (G2 : Hp) (M2 : Mem) (δ2 : DS), Ok X.K H' G2 M2 ∧ Same G G2 ∧ Slots X.K G2 σ' δ2 ∧ Iv m' δ2 M2, fun σ' H' ⟨m', l, q⟩ => ⟨m', l, q⟩, G3, M3, δ2, _, ok3, sl2.mono e3, h3, ?_⟩
      exact ⟨fun δ5 M5 σ5 H5 G5 ⟨m', l, h5⟩ ok5 e5 sl5 => ⟨m', l, G5, M5, δ5, ok5, ex.trans e5, sl5, h5⟩, fun d M v H G' h ok s => eo.rt d M v H G' h ok (ex.trans s), fun δ5 M5 σ5 H5 G5 h5 ok5 e5 sl5 => eo.nx _ _ _ _ _ h5 ok5 (ex.trans e5) sl5,
        fun δ5 M5 σ5 H5 G5 ⟨m', l, h5⟩ ok5 e5 sl5 => ⟨m', l, G5, M5, δ5, ok5, ex.trans e5, sl5, h5⟩, eo.xc.mono ex⟩
end
end DL

/-! The data layer: defs, calls, raise, try, the law's end -/
namespace DL
open PySem PySem.Spec PyProof.Rows L2

/-! ### promises over data -/
abbrev FDm := List D → Mem → QD → (Addr → Mem → Prop) → Prop
def spD (K : PySem.W.Frag) (m : FDm) : Sp := fun vs H Q E => ∃ (G : Hp) (M : Mem) (ds : List D) (Q' : QD) (X' : Addr → Mem → Prop), Ok K H G M ∧ RepL K G vs ds ∧ m ds M Q' X' ∧
  (∀ d M' v H' G', Q' d M' → Ok K H' G' M' → Same G G' → Rep K G' v d → Q v H') ∧ (∀ cls M' H' G', X' cls M' → Ok K H' G' M' → Same G G' → E (.ref cls) none H')
abbrev FnD (P : Program) (w : World) (K : PySem.W.Frag) (mg : Str → Option Value) (base : Heap) (k : Nat) (f : Addr) (fd : FuncData) (ps : List Str) (m : FDm) : Prop := FnOk P w K mg base (L2.CX P w) k f fd ps (spD K m)
/-- what stands at the end of a def: what may change and is not the caller's is forgotten -/
def retD (Q : QD) : QD := fun d M1 => ∃ M2 : Mem, M2.Sub M1 ∧ Q d M2
def retX (X : Addr → Mem → Prop) : XD := fun cls _ M1 => ∃ M2 : Mem, M2.Sub M1 ∧ X cls M2
def startD : Nat → List D → DS
  | 0, _ => []
  | n + 1, [] => none :: startD n []
  | n + 1, d :: r => some d :: startD n r
abbrev bodyE (Q : QD) (X : Addr → Mem → Prop) : DEnds := { nx := fun _ M1 => retD Q .non M1, rt := retD Q, xc := retX X }
theorem start_slots {K : PySem.W.Frag} {G : Hp} : ∀ {vs : List V} {ds : List D} (n : Nat), RepL K G vs ds → vs.length ≤ n → Slots K G (vs.map some ++ List.replicate (n - vs.length) none) (startD n ds)
  | _, _, 0, .nil, _ => .nil
  | _, _, n + 1, .nil, _ => .cons .no (start_slots n .nil (Nat.zero_le _))
  | _, _, 0, .cons _ _, h => absurd h (by simp)
  | v :: vs, d :: ds, n + 1, .cons r t, h => by
    have e : (n + 1) - (v :: vs).length = n - vs.length := by rw [List.length_cons]; omega
    rw [e]
    exact .cons (.yes r) (start_slots n t (by rw [List.length_cons] at h; omega))
section
variable {P : Program} {w : World} {K : PySem.W.Frag} {mg : Str → Option Value} {base : Heap}
abbrev WE0 (E : XK) : WX := fun c d _ H => E c d H
/-- THE RULE for a def over data -/
theorem okD {x qual : Str} {st : Stmt} {f : Addr} {fd : FuncData} {N ps : List Str} {k : Nat} {m : FDm} {t : DSt} (F : Fun K x qual st f fd) (S : FnScope N ps (defScope st)) (len : ∀ ds M Q X, m ds M Q X → ds.length = ps.length) (hn : ps.length ≤ N.length)
    (der : ∀ (cdv : Value) (A : Around) (outer : List Env) (s : Shared) (H : Hp) (E : XK), Room k (A.deeper (envOfC qual (defScope st) s.heap.objs.size f cdv)) →
      PDSs (cxOf (L2.CX P w) P w K mg base N qual (defScope st) f cdv A outer s H E) (WE0 E) (defBody st) t)
    (read : ∀ ds M Q X, m ds M Q X → t (bodyE Q X) (startD N.length ds) M) : FnD P w K mg base (k + 1) f fd ps m := by
  refine F.okX S (fun vs H Q E ⟨G, M, ds, Q', X', ok, r, h, _, _⟩ => by rw [r.len]; exact len _ _ _ _ h) fun cdv A outer s H vs Q E hr ⟨G, M, ds, Q', X', ok, r, h, hq, hx⟩ => ?_
  refine ⟨_, der cdv A outer s H E hr, G, M, startD N.length ds, _, ok, ?_, read ds M Q' X' h, ?_⟩
  · have hl := r.len
    rw [len _ _ _ _ h] at hl
    exact start_slots N.length r (by rw [hl]; exact hn)
  · refine ⟨fun δ M1 σ H1 G1 ⟨M2, s2, q⟩ ok1 e1 sl1 => hq .non M2 .non H1 G1 q (ok1.weak s2) e1 .non, fun d M1 v H1 G1 ⟨M2, s2, q⟩ ok1 e1 r1 => hq d M2 v H1 G1 q (ok1.weak s2) e1 r1, fun _ _ _ _ _ z => z.elim, fun _ _ _ _ _ z => z.elim, fun cls δ M1 σ H1 G1 ⟨M2, s2, q⟩ ok1 e1 sl1 => hx cls M2 H1 G1 q (ok1.weak s2) e1⟩
end

/-! ### calls of defs -/
def dFn (m : FDm) (t : DA) : DE := fun δ M Q X => t δ M (fun ds M1 => m ds M1 Q fun cls M' => X cls δ M') X
def insIs (C : Addr) (f : Str) (x : D) (M : Mem) : Prop := match x with
  | .obj a => elI C (M a) fun fs => look fs f = none
  | _ => False
def dMth (C : Addr) (f : Str) (m : FDm) (to : DE) (t : DA) : DE := fun δ M Q X => to δ M (fun x M1 => insIs C f x M1 ∧ t δ M1 (fun ds M2 => m (x :: ds) M2 Q fun cls M' => X cls δ M') X) X
def dMk (C : Addr) (m : FDm) (t : DA) : DE := fun δ M Q X => t δ M (fun ds M1 => ∀ x, M1 x = none → m (.obj x :: ds) (M1.set x (.ins C [])) (fun d M2 => isN d = true ∧ Q (.obj x) M2) fun cls M' => X cls δ M') X
section
variable {X : Cx} {W : WX} {CXx : CXT} {k : Nat} {f C : Addr} {fd : FuncData} {ps : List Str} {m : FDm} {sp : Sp} {E : L2.St → XK} {x n : Str} {p pos apos : Pos} {e o : Expr} {es : List Expr} {to : DE} {t : DA}
theorem pd_call (tk : Takes X W) (F : FnD X.prog X.w X.K X.mg X.base k f fd ps m) (hr : Room k X.A) (hg : Gl X x) (hm : X.mg x = some (.ref f)) (hk : PySem.W.keepIn X.K (.ref f) = true) (hb : Binds X.K fd ps [])
    (ha : PDA X W (e :: es) t) (hdb : (x == ("__debug__" : Str)) = false := by decide) (he : starEach (e :: es) X.env = (false, eval e X.env) :: starEach es X.env := by rfl) (hpl : (backTo pos (starEach es X.env)).any (·.1) = false := by rfl) :
    PD X W (.Call (.Name x p) (e :: es) [] pos) (dFn m t) :=
  PEw (pe_callS F hr hg hm hk hb (fun σ => passAt tk σ) ha hdb he hpl) fun σ H Q ⟨G, M, δ, Q', X', ok, sl, h, hq, hx⟩ => ⟨G, M, δ, _, X', ok, sl, h, fun ds M1 vs H1 G1 h1 ok1 e1 r1 =>
    ⟨G1, M1, ds, Q', _, ok1, r1, h1, fun d M2 v H2 G2 h2 ok2 e2 r2 => hq _ _ _ _ _ h2 ok2 (e1.trans e2) r2, fun cls M2 H2 G2 h2 ok2 e2 => hx _ _ _ _ _ _ h2 ok2 (e1.trans e2) (sl.mono (e1.trans e2))⟩, hx⟩
theorem pd_call0 (tk : Takes X W) (F : FnD X.prog X.w X.K X.mg X.base k f fd ps m) (hr : Room k X.A) (hg : Gl X x) (hm : X.mg x = some (.ref f)) (hk : PySem.W.keepIn X.K (.ref f) = true) (hb : Binds X.K fd ps [])
    (hdb : (x == ("__debug__" : Str)) = false := by decide) : PD X W (.Call (.Name x p) [] [] pos) (dFn m dNil) := by
  refine ⟨fun pins s σ H Q I ⟨G, M, δ, Q', X', ok, sl, h, hq, hx⟩ => ?_⟩
  refine wpAny_Call_Name_kw (ld_glob I hg hm ?_ hdb)
  refine PySem.W.callWith_K0 I.kIn hk (run_fnS (E := fun σ => WE W σ) (us := []) F hr hb (passAt tk σ) I .nil ?_)
  exact ⟨G, M, [], Q', _, ok, .nil, h, hq, fun cls M2 H2 G2 h2 ok2 e2 => hx _ _ _ _ _ _ h2 ok2 e2 (sl.mono e2)⟩
/-- o.m(e, ..), what is raised wished for at the slots -/
def tMethX (C : Addr) (m : Str) (sp : Sp) (E : L2.St → XK) (ta : TE) (t : TA) : TE := fun σ H Q => ta σ H fun x H1 => ∃ a dx fs, x = .ref a ∧ H1 a = some (.ins C dx fs) ∧ fs.lookup m = none ∧ t σ H1 fun vs H2 => sp (x :: vs) H2 Q (E σ)
theorem pe_methX {pl : Sem Bool} {ta : TE} {t : TA} (he : PE X o ta) (c : Cls X.K C) (hm : Meth X.K C n f) (F : FnOk X.prog X.w X.K X.mg X.base CXx k f fd ps sp) (hr : Room k X.A) (hb : Binds X.K fd ps []) (hx : ∀ σ, PassesAt CXx X σ (E σ)) (ha : PA X (e :: es) t)
    (hst : starEach (e :: es) X.env = (false, eval e X.env) :: starEach es X.env := by rfl) (hpl : (backTo pos (starEach es X.env)).any (·.1) = false := by rfl)
    (ht : eval (.Call (.Attribute o n apos) (e :: es) [] pos) X.env = (do
      let ov ← eval o X.env
      standAt apos.atName
      let (f, first) ← holding [ov] (getMethod ov n pl)
      callWith pos f first (backTo pos (starEach (e :: es) X.env)) (backToKw pos (keywordEach [] X.env))) := by rfl) :
    PE X (.Call (.Attribute o n apos) (e :: es) [] pos) (tMethX C n sp E ta t) := by
  refine ⟨fun pins s σ H Q I h => ?_⟩
  refine PySem.W.methodCall_KW (pl := pl) (thn (he.run pins s σ H _ I h) fun u s1 ⟨x, H1, I1, rx, a, dx, fs, ex, ea, l, q⟩ => ?_) ht
  subst ex
  obtain rfl : u = Value.ref a := rx
  refine getmeth_ok I1 ea c hm l ?_
  refine PySem.W.callWith_K (first := [.ref a]) (h₀ := X.base) I.ok.mod.kin hm.kp (thn (ha.run pos pins s1 σ H1 _ I1 q) fun us s2 ⟨vs, H2, I2, r, q2⟩ => ⟨I2.kIn, ?_⟩) hst hpl
  exact run_fnS (us := .ref a :: us) (vs := .ref a :: vs) F hr hb (hx σ) I2 (.cons rfl r) q2
theorem pe_methX0 {pl : Sem Bool} {ta : TE} (he : PE X o ta) (c : Cls X.K C) (hm : Meth X.K C n f) (F : FnOk X.prog X.w X.K X.mg X.base CXx k f fd ps sp) (hr : Room k X.A) (hb : Binds X.K fd ps []) (hx : ∀ σ, PassesAt CXx X σ (E σ))
    (ht : eval (.Call (.Attribute o n apos) [] [] pos) X.env = (do
      let ov ← eval o X.env
      standAt apos.atName
      let (f, first) ← holding [ov] (getMethod ov n pl)
      callWith pos f first (backTo pos (starEach [] X.env)) (backToKw pos (keywordEach [] X.env))) := by rfl) :
    PE X (.Call (.Attribute o n apos) [] [] pos) (tMethX C n sp E ta tNil) := by
  refine ⟨fun pins s σ H Q I h => ?_⟩
  refine PySem.W.methodCall_KW (pl := pl) (thn (he.run pins s σ H _ I h) fun u s1 ⟨x, H1, I1, rx, a, dx, fs, ex, ea, l, q⟩ => ?_) ht
  subst ex
  obtain rfl : u = Value.ref a := rx
  refine getmeth_ok I1 ea c hm l ?_
  exact PySem.W.callWith_K0 (first := [.ref a]) I1.kIn hm.kp (run_fnS (us := [.ref a]) (vs := [.ref a]) F hr hb (hx σ) I1 (.cons rfl .nil) q)
theorem ins_of {K : PySem.W.Frag} {H G : Hp} {M : Mem} {v : V} {d : D} (ok : Ok K H G M) (r : Rep K G v d) (h : insIs C n d M) : ∃ a dx fs, v = .ref a ∧ d = .obj a ∧ H a = some (.ins C dx fs) ∧ fs.lookup n = none := by
  unfold insIs at h
  split at h
  · obtain ⟨fs, m, l⟩ := elI_of h
    obtain ⟨g, dx, fv, hH, k, q⟩ := ok.mem _ _ m
    cases r
    exact ⟨_, dx, fv, rfl, rfl, hH, look_flds_none k l⟩
  · exact h.elim
theorem pd_meth {pl : Sem Bool} (tk : Takes X W) (he : PD X W o to) (c : Cls X.K C) (hm : Meth X.K C n f) (F : FnD X.prog X.w X.K X.mg X.base k f fd ps m) (hr : Room k X.A) (hb : Binds X.K fd ps []) (ha : PDA X W (e :: es) t)
    (hst : starEach (e :: es) X.env = (false, eval e X.env) :: starEach es X.env := by rfl) (hpl : (backTo pos (starEach es X.env)).any (·.1) = false := by rfl)
    (ht : eval (.Call (.Attribute o n apos) (e :: es) [] pos) X.env = (do
      let ov ← eval o X.env
      standAt apos.atName
      let (f, first) ← holding [ov] (getMethod ov n pl)
      callWith pos f first (backTo pos (starEach (e :: es) X.env)) (backToKw pos (keywordEach [] X.env))) := by rfl) :
    PD X W (.Call (.Attribute o n apos) (e :: es) [] pos) (dMth C n m to t) :=
  PEw (pe_methX (pl := pl) (E := fun σ => WE W σ) he c hm F hr hb (fun σ => passAt tk σ) ha hst hpl ht) fun σ H Q ⟨G, M, δ, Q', X', ok, sl, h, hq, hx⟩ => ⟨G, M, δ, _, X', ok, sl, h, fun d M1 v H1 G1 h1 ok1 e1 r1 => by
    obtain ⟨hi, h1⟩ := h1
    obtain ⟨a, dx, fs, ev, ed, hH, l⟩ := ins_of ok1 r1 hi
    refine ⟨a, dx, fs, ev, hH, l, G1, M1, δ, _, X', ok1, sl.mono e1, h1, fun ds M2 vs H2 G2 h2 ok2 e2 r2 => ?_, hx.mono e1⟩
    exact ⟨G2, M2, d :: ds, Q', _, ok2, .cons (r1.mono e2) r2, h2, fun d M3 v H3 G3 h3 ok3 e3 r3 => hq _ _ _ _ _ h3 ok3 (e1.trans (e2.trans e3)) r3, fun cls M3 H3 G3 h3 ok3 e3 => hx _ _ _ _ _ _ h3 ok3 (e1.trans (e2.trans e3)) (sl.mono (e1.trans (e2.trans e3)))⟩, hx⟩
theorem pd_meth0 {pl : Sem Bool} (tk : Takes X W) (he : PD X W o to) (c : Cls X.K C) (hm : Meth X.K C n f) (F : FnD X.prog X.w X.K X.mg X.base k f fd ps m) (hr : Room k X.A) (hb : Binds X.K fd ps [])
    (ht : eval (.Call (.Attribute o n apos) [] [] pos) X.env = (do
      let ov ← eval o X.env
      standAt apos.atName
      let (f, first) ← holding [ov] (getMethod ov n pl)
      callWith pos f first (backTo pos (starEach [] X.env)) (backToKw pos (keywordEach [] X.env))) := by rfl) :
    PD X W (.Call (.Attribute o n apos) [] [] pos) (dMth C n m to dNil) :=
  PEw (pe_methX0 (pl := pl) (E := fun σ => WE W σ) he c hm F hr hb (fun σ => passAt tk σ) ht) fun σ H Q ⟨G, M, δ, Q', X', ok, sl, h, hq, hx⟩ => ⟨G, M, δ, _, X', ok, sl, h, fun d M1 v H1 G1 h1 ok1 e1 r1 => by
    obtain ⟨hi, h1⟩ := h1
    obtain ⟨a, dx, fs, ev, ed, hH, l⟩ := ins_of ok1 r1 hi
    refine ⟨a, dx, fs, ev, hH, l, ?_⟩
    exact ⟨G1, M1, [d], Q', _, ok1, .one r1, h1, fun d M3 v H3 G3 h3 ok3 e3 r3 => hq _ _ _ _ _ h3 ok3 (e1.trans e3) r3, fun cls M3 H3 G3 h3 ok3 e3 => hx _ _ _ _ _ _ h3 ok3 (e1.trans e3) (sl.mono (e1.trans e3))⟩, hx⟩
/-- C(e, ..) -/
def tMakeX (C : Addr) (sp : Sp) (E : L2.St → XK) (t : TA) : TE := fun σ H Q => t σ H fun vs H1 => ∀ x dx, H1 x = none → H1 dx = none → dx ≠ x → sp (.ref x :: vs) (upd (upd H1 dx (.own x)) x (.ins C dx [])) (fun v H2 => v = .non ∧ Q (.ref x) H2) (E σ)
theorem pe_makeX {t : TA} (M : Mk X.K C f) (F : FnOk X.prog X.w X.K X.mg X.base CXx k f fd ps sp) (hr : Room (k + 1) X.A) (hg : Gl X x) (hm : X.mg x = some (.ref C)) (hb : Binds X.K fd ps []) (hx : ∀ σ, PassesAt CXx X σ (E σ))
    (ha : PA X (e :: es) t) (hdb : (x == ("__debug__" : Str)) = false := by decide) (he : starEach (e :: es) X.env = (false, eval e X.env) :: starEach es X.env := by rfl) (hpl : (backTo pos (starEach es X.env)).any (·.1) = false := by rfl) :
    PE X (.Call (.Name x p) (e :: es) [] pos) (tMakeX C sp E t) := by
  refine ⟨fun pins s σ H Q I h => ?_⟩
  refine wpAny_Call_Name_kw (ld_glob I hg hm ?_ hdb)
  refine PySem.W.callWith_K (h₀ := X.base) I.ok.mod.kin M.kp (thn (ha.run pos pins s σ H _ I h) fun us s1 ⟨vs, H1, I1, r, q⟩ => ⟨I1.kIn, ?_⟩) he hpl
  have hq := q (s1.heap.objs.size + 1) s1.heap.objs.size (I1.hok.fresh (Nat.le_succ _)) (I1.hok.fresh (Nat.le_refl _)) (Nat.ne_of_lt (Nat.lt_succ_self _))
  have I2 := Inv.made (C := C) I1
  have r2 : Vals (V.ref (s1.heap.objs.size + 1) :: vs) (Value.ref (s1.heap.objs.size + 1) :: us) := .cons rfl r
  have hl : (Value.ref (s1.heap.objs.size + 1) :: us).length = ps.length := by
    have e := r2.length
    rw [F.len _ _ _ _ hq] at e
    exact e.symm
  have b := hb { s1 with heap := (s1.heap.push PySem.W.emptyDict).push (PySem.W.instObj C s1.heap.objs.size) } (Value.ref (s1.heap.objs.size + 1) :: us) I2.kIn (by rw [List.append_nil]; exact hl)
  rw [List.append_nil] at b
  refine wpAny_call (make_map (f := f) I1.kIn M.makes M.init (beq_iff_eq.mp M.fn) (codeAny_mono (F.run _ X.stack _ _ ⟨Value.ref (s1.heap.objs.size + 1) :: us, []⟩ (Value.ref (s1.heap.objs.size + 1) :: us) _ _ (E σ) (hr.make C us [])
    (I2.env0.make C us []) b r2 hq) fun r s' hq' => ?_))
  cases r with
  | error e => exact hx σ pins _ _ e s' I2 hq'
  | ok fl =>
    cases fl with
    | ret u =>
      obtain ⟨v, H', I3, rv, ev, q3⟩ := I2.after hq'
      subst ev
      exact ⟨rv, ⟨V.ref (s1.heap.objs.size + 1), H', I3, rfl, q3⟩⟩
    | next => exact False.elim hq'
    | brk => exact False.elim hq'
    | cont => exact False.elim hq'
theorem pd_make (tk : Takes X W) (Mk' : Mk X.K C f) (F : FnD X.prog X.w X.K X.mg X.base k f fd ps m) (hr : Room (k + 1) X.A) (hg : Gl X x) (hm : X.mg x = some (.ref C)) (hb : Binds X.K fd ps [])
    (ha : PDA X W (e :: es) t) (hdb : (x == ("__debug__" : Str)) = false := by decide) (he : starEach (e :: es) X.env = (false, eval e X.env) :: starEach es X.env := by rfl) (hpl : (backTo pos (starEach es X.env)).any (·.1) = false := by rfl) :
    PD X W (.Call (.Name x p) (e :: es) [] pos) (dMk C m t) :=
  PEw (pe_makeX (E := fun σ => WE W σ) Mk' F hr hg hm hb (fun σ => passAt tk σ) ha hdb he hpl) fun σ H Q ⟨G, M, δ, Q', X', ok, sl, h, hq, hx⟩ => ⟨G, M, δ, _, X', ok, sl, h, fun ds M1 vs H1 G1 h1 ok1 e1 r1 => fun x dx hx0 hd0 hne => by
    have okd := ok1.extra (o := .own x) hd0
    have hx1 : (upd H1 dx (.own x)) x = none := by rw [upd_ne (Ne.symm hne)]; exact hx0
    have gx := okd.gnone hx1
    refine ⟨G1, M1.set x (.ins C []), .obj x :: ds, _, _, okd.write (m := .ins C []) gx ⟨dx, [], upd_same, rfl, .nil⟩, .cons (.obj x) r1, h1 x (ok1.mnone hx0), fun d M2 v H2 G2 h2 ok2 e2 r2 => ?_, fun cls M2 H2 G2 h2 ok2 e2 => hx _ _ _ _ _ _ h2 ok2 (e1.trans e2) (sl.mono (e1.trans e2))⟩
    obtain ⟨hn, h3⟩ := h2
    have ev : v = .non := by
      cases r2 <;> first | rfl | cases hn
    exact ⟨ev, hq _ _ _ _ _ h3 ok2 (e1.trans e2) (.obj x)⟩, hx⟩
end

/-! ### raise, try -/
def dTry (K : PySem.W.Frag) (c : Value) (t u : DSt) : DSt := fun E δ M => t { E with xc := fun cls δ' M' => PySem.W.exmOne K (.ref cls) c = some true ∧ u { E with xc := fun _ _ _ => False } δ' M' } δ M
section
variable {X : Cx} {W : WX} {C : Addr} {x m : Str} {j : Nat} {p p2 pos pos2 np pos' : Pos} {B newId initId : String} {bmB : List Value}
theorem pds_raise (tk : Takes X W) (hc : X.calm = true) (F : ExcBaseFacts B newId initId bmB) (q : PySem.W.excIn X.K C bmB newId = true) (gC : X.mg x = some (.ref C)) (kC : PySem.W.keepIn X.K (.ref C) = true) (r : Raises X (.ref C)) (hg : Gl X x)
    (hdb : (x == ("__debug__" : Str)) = false := by decide) : PDS X W (.Raise (some (.Call (.Name x p) [.Constant (.str m) j p2] [] pos)) none pos2) (dRaise C) :=
  PSw (ps_raise hc tk (pmk_own F q gC kC r hg hdb)) fun D σ H ⟨G, M, δ, E, ok, sl, h, eo⟩ => eo.xc _ _ _ _ _ _ h ok (Same.refl _) sl
theorem pds_try {c : Value} {body suite : List Stmt} {b₀ : Stmt} {t u : DSt} (hs : X.stack = X.env :: X.outer) (hf : X.env.frame = some X.env.locals) (hc : Names X x c) (tk : Takes X W)
    (hb : ∀ (W' : WX) (pn : List (Addr × Obj)) (xe : Value → Shared → Prop), Takes (X.tr pn xe) W' → PassesOwn (model X.prog X.w) X.A X.env xe → PDSs (X.tr pn xe) W' body t)
    (hsu : ∀ (a : Addr) (oe : Obj) (cls : Value) (d : Option Addr) (pn : List (Addr × Obj)), Zc cls d oe → (∃ vs, oe.data = .fields vs) → PDSs (X.suite a ((a, oe) :: pn)) W0 (b₀ :: suite) u) :
    PDS X W (.Try body [.ExceptHandler (some (.Name x np)) none (b₀ :: suite) pos'] [] [] pos) (dTry X.K c t u) :=
  PSw (ps_try_only (tb := fun W' => upS X.K W' t) (ts := fun _ _ _ => upS X.K W0 u) hs hf hc tk hb hsu) fun D σ H ⟨G, M, δ, E, ok, sl, h, eo⟩ =>
    ⟨G, M, δ, _, ok, sl, h, ⟨eo.nx, eo.rt, eo.bk, eo.ct, fun cls δ' M' σ' H' G' ⟨hx, hu⟩ ok' e' sl' => ⟨true, hx, fun _ a ha => ⟨G', M', δ', _, ok', sl', hu, ⟨(eo.mono e').nx, (eo.mono e').rt, (eo.mono e').bk, (eo.mono e').ct, WOk.bot⟩⟩, fun z => nomatch z⟩⟩⟩
end

/-! ### the law's end -/
/-- the law: of a script handed in it gives True -/
def mLaw : FDm := fun ds M Q _ => ∃ ns : List Int, ds = [.scr ns] ∧ ns.length ≤ 63 ∧ ∀ M', Q (.bl true) M'
theorem walkD {l : PySem.W.OpenLaw} {k : Nat} {q : Program} {loose : List Str} {XP : (Str → Option Value) → Heap → Prop} {YP : World → Heap → Prop} {d : DefRec} {K : Params → PySem.W.Frag} {x : Str} (hn : l.most = some 63) (hdf : d.params.defaults = []) (hr : Room k callerA)
    (hY : ∀ (w : World) (h : Heap), YP w h → (K w.params).In h)
    (F : ∀ (w : World) (mg : Str → Option Value) (fa : Addr) (h : Heap), (K w.params).In h → h.Ns mainGlobals mg → mg d.name = some (.ref fa) →
      ∃ fd : FuncData, (∀ (s : Shared) (u : Value), BindsTo s fd ⟨[u], []⟩ [(x, u)]) ∧ ∀ base : Heap, (K w.params).In base → base.Ns mainGlobals mg → FnD l.prog w (K w.params) mg base k fa fd [x] mLaw) :
    PySem.W.WalkO q loose XP YP l.row.toRowW d [] (fun f vs => PySem.call f vs) :=
  L2.walk_of (n := 63) (CX := fun w => L2.CX l.prog w) (sp := fun w => spD (K w.params) mLaw) hn (by rw [sizeLine_eq]; decide) hdf hr hY F (fun w H a ns hl _ hS => ⟨H, fun _ => none, [.scr ns], fun d _ => d = .bl true, fun _ _ => False, ⟨Same.refl _, fun _ _ z => nomatch z⟩, .one (.scr hS), ⟨ns, rfl, hl, fun M' => rfl⟩, fun d M' v H' G' (e : d = .bl true) ok s r => by subst e; cases r; rfl, fun _ _ _ _ z => z.elim⟩) fun w H s e s' z => by
    obtain ⟨_, _, _, _, _, _, _, _, _, _, _, _, z⟩ := z
    exact z.elim
end DL

/-! The data layer: a def by what the program's top has made of it; addresses; small lemmas for readings -/
namespace DL
open PySem PySem.Spec PyProof.Rows L2

section
variable (P : Program) (w : World) (K : PySem.W.Frag) (mg : Str → Option Value) (base : Heap)
def Has (x : Str) (ps : List Str) (k : Nat) (m : FDm) : Prop := ∃ (f : Addr) (fd : FuncData), mg x = some (.ref f) ∧ PySem.W.keepIn K (.ref f) = true ∧ Binds K fd ps [] ∧ FnD P w K mg base k f fd ps m
def HasM (C : Addr) (n : Str) (ps : List Str) (k : Nat) (m : FDm) : Prop := ∃ (f : Addr) (fd : FuncData), Meth K C n f ∧ Binds K fd ps [] ∧ FnD P w K mg base k f fd ps m
def HasI (C : Addr) (ps : List Str) (k : Nat) (m : FDm) : Prop := ∃ (f : Addr) (fd : FuncData), Mk K C f ∧ Binds K fd ps [] ∧ FnD P w K mg base k f fd ps m
end
section
variable {X : Cx} {W : WX} {k : Nat} {C : Addr} {ps : List Str} {m : FDm} {x n : Str} {p pos apos : Pos} {e o : Expr} {es : List Expr} {to : DE} {t : DA}
theorem pd_callH (tk : Takes X W) (F : Has X.prog X.w X.K X.mg X.base x ps k m) (hr : Room k X.A) (hg : Gl X x)
    (ha : PDA X W (e :: es) t) (hdb : (x == ("__debug__" : Str)) = false := by decide) (he : starEach (e :: es) X.env = (false, eval e X.env) :: starEach es X.env := by rfl) (hpl : (backTo pos (starEach es X.env)).any (·.1) = false := by rfl) :
    PD X W (.Call (.Name x p) (e :: es) [] pos) (dFn m t) := let ⟨f, fd, hm, hk, hb, F⟩ := F; pd_call tk F hr hg hm hk hb ha hdb he hpl
theorem pd_call0H (tk : Takes X W) (F : Has X.prog X.w X.K X.mg X.base x ps k m) (hr : Room k X.A) (hg : Gl X x) (hdb : (x == ("__debug__" : Str)) = false := by decide) : PD X W (.Call (.Name x p) [] [] pos) (dFn m dNil) :=
  let ⟨f, fd, hm, hk, hb, F⟩ := F; pd_call0 tk F hr hg hm hk hb hdb
theorem pd_methH {pl : Sem Bool} (tk : Takes X W) (he : PD X W o to) (c : Cls X.K C) (F : HasM X.prog X.w X.K X.mg X.base C n ps k m) (hr : Room k X.A) (ha : PDA X W (e :: es) t)
    (hst : starEach (e :: es) X.env = (false, eval e X.env) :: starEach es X.env := by rfl) (hpl : (backTo pos (starEach es X.env)).any (·.1) = false := by rfl)
    (ht : eval (.Call (.Attribute o n apos) (e :: es) [] pos) X.env = (do
      let ov ← eval o X.env
      standAt apos.atName
      let (f, first) ← holding [ov] (getMethod ov n pl)
      callWith pos f first (backTo pos (starEach (e :: es) X.env)) (backToKw pos (keywordEach [] X.env))) := by rfl) :
    PD X W (.Call (.Attribute o n apos) (e :: es) [] pos) (dMth C n m to t) := let ⟨f, fd, hm, hb, F⟩ := F; pd_meth (pl := pl) tk he c hm F hr hb ha hst hpl ht
theorem pd_meth0H {pl : Sem Bool} (tk : Takes X W) (he : PD X W o to) (c : Cls X.K C) (F : HasM X.prog X.w X.K X.mg X.base C n ps k m) (hr : Room k X.A)
    (ht : eval (.Call (.Attribute o n apos) [] [] pos) X.env = (do
      let ov ← eval o X.env
      standAt apos.atName
      let (f, first) ← holding [ov] (getMethod ov n pl)
      callWith pos f first (backTo pos (starEach [] X.env)) (backToKw pos (keywordEach [] X.env))) := by rfl) :
    PD X W (.Call (.Attribute o n apos) [] [] pos) (dMth C n m to dNil) := let ⟨f, fd, hm, hb, F⟩ := F; pd_meth0 (pl := pl) tk he c hm F hr hb ht
theorem pd_makeH (tk : Takes X W) (F : HasI X.prog X.w X.K X.mg X.base C ps k m) (hr : Room (k + 1) X.A) (hg : Gl X x) (hm : X.mg x = some (.ref C))
    (ha : PDA X W (e :: es) t) (hdb : (x == ("__debug__" : Str)) = false := by decide) (he : starEach (e :: es) X.env = (false, eval e X.env) :: starEach es X.env := by rfl) (hpl : (backTo pos (starEach es X.env)).any (·.1) = false := by rfl) :
    PD X W (.Call (.Name x p) (e :: es) [] pos) (dMk C m t) := let ⟨f, fd, hM, hb, F⟩ := F; pd_make tk hM F hr hg hm hb ha hdb he hpl
/-- a + b, a list that may change -/
def oAddM (x y : D) (M : Mem) (Q : QD) : Prop := match res M x, res M y with
  | .lst a, .lst b => a.length + b.length ≤ sizeLine ∧ ∀ p, M p = none → Q (.obj p) (M.set p (.lst (a ++ b)))
  | _, _ => False
theorem l_addM {K : PySem.W.Frag} : LOp K rCat oAddM := by
  intro x y H G M dx dy Q Q' ok rx ry h hq
  unfold oAddM at h
  split at h
  · rename_i as bs e1 e2
    obtain ⟨p1, v1, f1, h1, q1, z1⟩ := rx.lstOf ok e1
    obtain ⟨p2, v2, f2, h2, q2, z2⟩ := ry.lstOf ok e2
    refine ⟨p1, p2, v1, v2, f1, f2, h1, h2, by rw [q1.len, q2.len]; exact h.1, fun p hp => ?_⟩
    have gp := ok.gnone hp
    exact hq _ _ _ _ _ (h.2 p (ok.mnone hp)) (ok.write (m := .lst _) gp ⟨_, upd_same, q1.append q2, by rw [List.length_append]; exact h.1⟩) (Same.refl _) (.obj p)
  · exact h.elim
theorem pd_addM {a b : Expr} {ta tb : DE} (ha : PD X W a ta) (hb : PD X W b tb) : PD X W (.BinOp a .Add b pos) (dOp oAddM ta tb) := pd_op op_cat l_addM ha hb
end

theorem pd_globE {X : Cx} {W : WX} {x : Str} {v : V} {d : D} {pos : Pos} (hg : Gl X x) (h : ∃ u, X.mg x = some u ∧ RelV v u) (q : ∀ G, Rep X.K G v d) (hd : (x == ("__debug__" : Str)) = false := by decide) : PD X W (.Name x pos) (dC d) :=
  let ⟨_, hm, r⟩ := h; pd_glob hg hm r q hd
/-- where the classes stand -/
structure Adr where
  Room : Addr
  RoomError : Addr
  BadName : Addr
  BadWish : Addr
  BadNumber : Addr
  Known : Addr
  Stranger : Addr
  Outside : Addr
  Inside : Addr
  Reads : Addr
  Writes : Addr
  Asked : Addr
  BadText : Addr
  BadJournal : Addr

/-! readings by what is known: all by definition -/
theorem res_non {M : Mem}  : res M .non = .non := rfl
theorem res_bl {M : Mem} (b : Bool) : res M (.bl b) = (.bl b) := rfl
theorem res_int {M : Mem} (i : Int) : res M (.int i) = (.int i) := rfl
theorem res_str {M : Mem} (z : Str) : res M (.str z) = (.str z) := rfl
theorem res_lst {M : Mem} (xs : List D) : res M (.lst xs) = (.lst xs) := rfl
theorem res_tupE {M : Mem} (xs : List D) : res M (.tup xs) = (.tup xs) := rfl
theorem res_dic {M : Mem} (kvs : List (Str × D)) : res M (.dic kvs) = (.dic kvs) := rfl
theorem res_scr {M : Mem} (ns : List Int) : res M (.scr ns) = (.scr ns) := rfl
theorem res_ty {M : Mem} (n : String) : res M (.ty n) = (.ty n) := rfl
def addR (x y : D) (M : Mem) (Q : QD) : Prop := match x, y with
  | .int i, .int j => Q (.int (i + j)) M
  | .str a, .str b => a.length + b.length ≤ sizeLine ∧ Q (.str (a ++ b)) M
  | .lst a, .lst b => a.length + b.length ≤ sizeLine ∧ Q (.lst (a ++ b)) M
  | .tup a, .tup b => a.length + b.length ≤ sizeLine ∧ Q (.tup (a ++ b)) M
  | _, _ => False
theorem oAdd_eq {x y : D} {M : Mem} {Q : QD} : oAdd x y M Q = addR (res M x) (res M y) M Q := rfl
theorem addR_int {i j : Int} {M : Mem} {Q : QD} : addR (.int i) (.int j) M Q = Q (.int (i + j)) M := rfl
theorem addR_str {a b : Str} {M : Mem} {Q : QD} : addR (.str a) (.str b) M Q = (a.length + b.length ≤ sizeLine ∧ Q (.str (a ++ b)) M) := rfl
theorem addR_lst {a b : List D} {M : Mem} {Q : QD} : addR (.lst a) (.lst b) M Q = (a.length + b.length ≤ sizeLine ∧ Q (.lst (a ++ b)) M) := rfl
theorem addR_tup {a b : List D} {M : Mem} {Q : QD} : addR (.tup a) (.tup b) M Q = (a.length + b.length ≤ sizeLine ∧ Q (.tup (a ++ b)) M) := rfl
def addMR (x y : D) (M : Mem) (Q : QD) : Prop := match x, y with
  | .lst a, .lst b => a.length + b.length ≤ sizeLine ∧ ∀ p, M p = none → Q (.obj p) (M.set p (.lst (a ++ b)))
  | _, _ => False
theorem oAddM_eq {x y : D} {M : Mem} {Q : QD} : oAddM x y M Q = addMR (res M x) (res M y) M Q := rfl
theorem addMR_lst {a b : List D} {M : Mem} {Q : QD} : addMR (.lst a) (.lst b) M Q = (a.length + b.length ≤ sizeLine ∧ ∀ p, M p = none → Q (.obj p) (M.set p (.lst (a ++ b)))) := rfl
def intR (C : Int → Int → Prop) (g : Int → Int → D) (x y : D) (M : Mem) (Q : QD) : Prop := match x, y with
  | .int i, .int j => C i j ∧ Q (g i j) M
  | _, _ => False
def int0R (g : Int → Int → D) (x y : D) (M : Mem) (Q : QD) : Prop := match x, y with
  | .int i, .int j => Q (g i j) M
  | _, _ => False
def negR (x : D) (M : Mem) (Q : QD) : Prop := match x with
  | .int i => Q (.int (-i)) M
  | _ => False
theorem oInt_eq {C : Int → Int → Prop} {g : Int → Int → D} {x y : D} {M : Mem} {Q : QD} : oInt C g x y M Q = intR C g (res M x) (res M y) M Q := rfl
theorem intR_int {C : Int → Int → Prop} {g : Int → Int → D} {i j : Int} {M : Mem} {Q : QD} : intR C g (.int i) (.int j) M Q = (C i j ∧ Q (g i j) M) := rfl
theorem oInt0_eq {g : Int → Int → D} {x y : D} {M : Mem} {Q : QD} : oInt0 g x y M Q = int0R g (res M x) (res M y) M Q := rfl
theorem int0R_int {g : Int → Int → D} {i j : Int} {M : Mem} {Q : QD} : int0R g (.int i) (.int j) M Q = Q (g i j) M := rfl
theorem oNeg_eq {x : D} {M : Mem} {Q : QD} : oNeg x M Q = negR (res M x) M Q := rfl
theorem negR_int {i : Int} {M : Mem} {Q : QD} : negR (.int i) M Q = Q (.int (-i)) M := rfl
def eqR (neg : Bool) (o : Option Bool) (x y : D) (M : Mem) (Q : QD) : Prop := match o with
  | some b => Q (.bl (cond neg (!b) b)) M
  | none => flatN 9 x = true ∧ flatN 9 y = true ∧ Q (.bl (cond neg (!D.eqv x y) (D.eqv x y))) M
theorem oEqN_eq {neg : Bool} {x y : D} {M : Mem} {Q : QD} : oEqN neg x y M Q = eqR neg (eqS x y) (res M x) (res M y) M Q := rfl
theorem eqR_some {neg b : Bool} {x y : D} {M : Mem} {Q : QD} : eqR neg (some b) x y M Q = Q (.bl (cond neg (!b) b)) M := rfl
theorem eqR_none {neg : Bool} {x y : D} {M : Mem} {Q : QD} : eqR neg none x y M Q = (flatN 9 x = true ∧ flatN 9 y = true ∧ Q (.bl (cond neg (!D.eqv x y) (D.eqv x y))) M) := rfl
theorem eqS_non_non  : eqS .non .non = some true := rfl
theorem eqS_non_int {v : Int}  : eqS .non (.int v) = some false := rfl
theorem eqS_non_bl {v : Bool}  : eqS .non (.bl v) = some false := rfl
theorem eqS_non_str {v : Str}  : eqS .non (.str v) = some false := rfl
theorem eqS_non_lst {v : List D}  : eqS .non (.lst v) = none := rfl
theorem eqS_non_tup {v : List D}  : eqS .non (.tup v) = none := rfl
theorem eqS_int_non {u : Int}  : eqS (.int u) .non = some false := rfl
theorem eqS_int_int {u : Int} {v : Int}  : eqS (.int u) (.int v) = some (decide (u = v)) := rfl
theorem eqS_int_bl {u : Int} {v : Bool}  : eqS (.int u) (.bl v) = none := rfl
theorem eqS_int_str {u : Int} {v : Str}  : eqS (.int u) (.str v) = some false := rfl
theorem eqS_int_lst {u : Int} {v : List D}  : eqS (.int u) (.lst v) = none := rfl
theorem eqS_int_tup {u : Int} {v : List D}  : eqS (.int u) (.tup v) = none := rfl
theorem eqS_bl_non {u : Bool}  : eqS (.bl u) .non = some false := rfl
theorem eqS_bl_int {u : Bool} {v : Int}  : eqS (.bl u) (.int v) = none := rfl
theorem eqS_bl_bl {u : Bool} {v : Bool}  : eqS (.bl u) (.bl v) = some (decide (u = v)) := rfl
theorem eqS_bl_str {u : Bool} {v : Str}  : eqS (.bl u) (.str v) = some false := rfl
theorem eqS_bl_lst {u : Bool} {v : List D}  : eqS (.bl u) (.lst v) = none := rfl
theorem eqS_bl_tup {u : Bool} {v : List D}  : eqS (.bl u) (.tup v) = none := rfl
theorem eqS_str_non {u : Str}  : eqS (.str u) .non = some false := rfl
theorem eqS_str_int {u : Str} {v : Int}  : eqS (.str u) (.int v) = some false := rfl
theorem eqS_str_bl {u : Str} {v : Bool}  : eqS (.str u) (.bl v) = some false := rfl
theorem eqS_str_str {u : Str} {v : Str}  : eqS (.str u) (.str v) = some (decide (u = v)) := rfl
theorem eqS_str_lst {u : Str} {v : List D}  : eqS (.str u) (.lst v) = none := rfl
theorem eqS_str_tup {u : Str} {v : List D}  : eqS (.str u) (.tup v) = none := rfl
theorem eqS_lst_non {u : List D}  : eqS (.lst u) .non = none := rfl
theorem eqS_lst_int {u : List D} {v : Int}  : eqS (.lst u) (.int v) = none := rfl
theorem eqS_lst_bl {u : List D} {v : Bool}  : eqS (.lst u) (.bl v) = none := rfl
theorem eqS_lst_str {u : List D} {v : Str}  : eqS (.lst u) (.str v) = none := rfl
theorem eqS_lst_lst {u : List D} {v : List D}  : eqS (.lst u) (.lst v) = none := rfl
theorem eqS_lst_tup {u : List D} {v : List D}  : eqS (.lst u) (.tup v) = none := rfl
theorem eqS_tup_non {u : List D}  : eqS (.tup u) .non = none := rfl
theorem eqS_tup_int {u : List D} {v : Int}  : eqS (.tup u) (.int v) = none := rfl
theorem eqS_tup_bl {u : List D} {v : Bool}  : eqS (.tup u) (.bl v) = none := rfl
theorem eqS_tup_str {u : List D} {v : Str}  : eqS (.tup u) (.str v) = none := rfl
theorem eqS_tup_lst {u : List D} {v : List D}  : eqS (.tup u) (.lst v) = none := rfl
theorem eqS_tup_tup {u : List D} {v : List D}  : eqS (.tup u) (.tup v) = none := rfl
theorem eqS_obj_non {a : Addr}  : eqS (.obj a) .non = none := rfl
theorem eqS_non_obj {a : Addr}  : eqS .non (.obj a) = none := rfl
theorem eqS_obj_int {a : Addr} {v : Int}  : eqS (.obj a) (.int v) = none := rfl
theorem eqS_int_obj {a : Addr} {v : Int}  : eqS (.int v) (.obj a) = none := rfl
theorem eqS_obj_bl {a : Addr} {v : Bool}  : eqS (.obj a) (.bl v) = none := rfl
theorem eqS_bl_obj {a : Addr} {v : Bool}  : eqS (.bl v) (.obj a) = none := rfl
theorem eqS_obj_str {a : Addr} {v : Str}  : eqS (.obj a) (.str v) = none := rfl
theorem eqS_str_obj {a : Addr} {v : Str}  : eqS (.str v) (.obj a) = none := rfl
theorem eqS_obj_lst {a : Addr} {v : List D}  : eqS (.obj a) (.lst v) = none := rfl
theorem eqS_lst_obj {a : Addr} {v : List D}  : eqS (.lst v) (.obj a) = none := rfl
theorem eqS_obj_tup {a : Addr} {v : List D}  : eqS (.obj a) (.tup v) = none := rfl
theorem eqS_tup_obj {a : Addr} {v : List D}  : eqS (.tup v) (.obj a) = none := rfl
theorem eqS_obj_obj {a b : Addr} : eqS (.obj a) (.obj b) = none := rfl
def inR (neg : Bool) (x y : D) (M : Mem) (Q : QD) : Prop := match y with
  | .lst ds => flatD x = true ∧ ds.all flatD = true ∧ Q (.bl (cond neg (!inD x ds) (inD x ds))) M
  | .tup ds => flatD x = true ∧ ds.all flatD = true ∧ Q (.bl (cond neg (!inD x ds) (inD x ds))) M
  | .str z => (match x with
    | .str ⟨⟨[c]⟩⟩ => Q (.bl (cond neg (!decide (c ∈ z.cps.toList)) (decide (c ∈ z.cps.toList)))) M
    | _ => False)
  | _ => False
theorem oInN_eq {neg : Bool} {x y : D} {M : Mem} {Q : QD} : oInN neg x y M Q = inR neg x (res M y) M Q := rfl
theorem inR_lst {neg : Bool} {x : D} {ds : List D} {M : Mem} {Q : QD} : inR neg x (.lst ds) M Q = (flatD x = true ∧ ds.all flatD = true ∧ Q (.bl (cond neg (!inD x ds) (inD x ds))) M) := rfl
theorem inR_tup {neg : Bool} {x : D} {ds : List D} {M : Mem} {Q : QD} : inR neg x (.tup ds) M Q = (flatD x = true ∧ ds.all flatD = true ∧ Q (.bl (cond neg (!inD x ds) (inD x ds))) M) := rfl
theorem inR_str {neg : Bool} {c : Nat} {z : Str} {M : Mem} {Q : QD} : inR neg (.str ⟨#[c]⟩) (.str z) M Q = Q (.bl (cond neg (!decide (c ∈ z.cps.toList)) (decide (c ∈ z.cps.toList)))) M := rfl
theorem flatD_non  : flatD .non = true := rfl
theorem flatD_bl (b : Bool) : flatD (.bl b) = true := rfl
theorem flatD_int (i : Int) : flatD (.int i) = true := rfl
theorem flatD_str (z : Str) : flatD (.str z) = true := rfl
theorem asB_bl {b : Bool} {M : Mem} {Q : Bool → Mem → Prop} : asB (.bl b) M Q = Q b M := rfl
theorem isN_non  : isN .non = true := rfl
theorem isN_bl (b : Bool) : isN (.bl b) = false := rfl
theorem isN_int (i : Int) : isN (.int i) = false := rfl
theorem isN_str (z : Str) : isN (.str z) = false := rfl
theorem isN_lst (xs : List D) : isN (.lst xs) = false := rfl
theorem isN_tup (xs : List D) : isN (.tup xs) = false := rfl
theorem isN_dic (kvs : List (Str × D)) : isN (.dic kvs) = false := rfl
theorem isN_scr (ns : List Int) : isN (.scr ns) = false := rfl
theorem isN_ty (n : String) : isN (.ty n) = false := rfl
theorem isN_obj (a : Addr) : isN (.obj a) = false := rfl
def frzR (r d : D) (M : Mem) (Q : QD) : Prop := match r, d with
  | .lst ds, .obj a => Q (.lst ds) (M.del a)
  | .dic kvs, .obj a => Q (.dic kvs) (M.del a)
  | _, .obj _ => False
  | _, d => Q d M
theorem frz_obj {a : Addr} {M : Mem} {Q : QD} : frz (.obj a) M Q = frzR (res M (.obj a)) (.obj a) M Q := rfl
theorem frzR_lst {a : Addr} {ds : List D} {M : Mem} {Q : QD} : frzR (.lst ds) (.obj a) M Q = Q (.lst ds) (M.del a) := rfl
theorem frzR_dic {a : Addr} {ds : List (Str × D)} {M : Mem} {Q : QD} : frzR (.dic ds) (.obj a) M Q = Q (.dic ds) (M.del a) := rfl
theorem frz_non  {M : Mem} {Q : QD} : frz .non M Q = Q .non M := rfl
theorem frz_bl (b : Bool) {M : Mem} {Q : QD} : frz (.bl b) M Q = Q (.bl b) M := rfl
theorem frz_int (i : Int) {M : Mem} {Q : QD} : frz (.int i) M Q = Q (.int i) M := rfl
theorem frz_str (z : Str) {M : Mem} {Q : QD} : frz (.str z) M Q = Q (.str z) M := rfl
theorem frz_lst (xs : List D) {M : Mem} {Q : QD} : frz (.lst xs) M Q = Q (.lst xs) M := rfl
theorem frz_tup (xs : List D) {M : Mem} {Q : QD} : frz (.tup xs) M Q = Q (.tup xs) M := rfl
theorem frz_dic (kvs : List (Str × D)) {M : Mem} {Q : QD} : frz (.dic kvs) M Q = Q (.dic kvs) M := rfl
theorem frz_scr (ns : List Int) {M : Mem} {Q : QD} : frz (.scr ns) M Q = Q (.scr ns) M := rfl
theorem frz_ty (n : String) {M : Mem} {Q : QD} : frz (.ty n) M Q = Q (.ty n) M := rfl
def ixR (x y : D) (M : Mem) (Q : QD) : Prop := match x, y with
  | .lst ds, .int i => el (nth ds i) fun d => Q d M
  | .tup ds, .int i => el (nth ds i) fun d => Q d M
  | .scr ns, .int i => el (nth ns i) fun n => Q (.int n) M
  | .str z, .int i => el (nth z.cps.toList i) fun c => Q (.str ⟨#[c]⟩) M
  | .dic kvs, .str k => el (look kvs k) fun d => Q d M
  | _, _ => False
theorem oIx_eq {x y : D} {M : Mem} {Q : QD} : oIx x y M Q = ixR (res M x) y M Q := rfl
theorem ixR_lst {ds : List D} {i : Int} {M : Mem} {Q : QD} : ixR (.lst ds) (.int i) M Q = el (nth ds i) fun d => Q d M := rfl
theorem ixR_tup {ds : List D} {i : Int} {M : Mem} {Q : QD} : ixR (.tup ds) (.int i) M Q = el (nth ds i) fun d => Q d M := rfl
theorem ixR_scr {ns : List Int} {i : Int} {M : Mem} {Q : QD} : ixR (.scr ns) (.int i) M Q = el (nth ns i) fun n => Q (.int n) M := rfl
theorem ixR_str {z : Str} {i : Int} {M : Mem} {Q : QD} : ixR (.str z) (.int i) M Q = el (nth z.cps.toList i) fun c => Q (.str ⟨#[c]⟩) M := rfl
theorem ixR_dic {kvs : List (Str × D)} {k : Str} {M : Mem} {Q : QD} : ixR (.dic kvs) (.str k) M Q = el (look kvs k) fun d => Q d M := rfl
theorem nth_0 {α : Type} {x0 : α} {r : List α} : nth (x0 :: r) 0 = some x0 := rfl
theorem nth_1 {α : Type} {x0 x1 : α} {r : List α} : nth (x0 :: x1 :: r) 1 = some x1 := rfl
theorem nth_2 {α : Type} {x0 x1 x2 : α} {r : List α} : nth (x0 :: x1 :: x2 :: r) 2 = some x2 := rfl
theorem nth_3 {α : Type} {x0 x1 x2 x3 : α} {r : List α} : nth (x0 :: x1 :: x2 :: x3 :: r) 3 = some x3 := rfl
def slR (x : D) (lo hi : Option Int) (M : Mem) (Q : QD) : Prop := match x with
  | .lst ds => Q (.lst (dcut ds lo hi)) M
  | .tup ds => Q (.tup (dcut ds lo hi)) M
  | .str z => Q (.str (cutS z lo hi)) M
  | _ => False
theorem oSl_eq {x : D} {lo hi : Option Int} {M : Mem} {Q : QD} : oSl x lo hi M Q = slR (res M x) lo hi M Q := rfl
theorem slR_lst {ds : List D} {lo hi : Option Int} {M : Mem} {Q : QD} : slR (.lst ds) lo hi M Q = Q (.lst (dcut ds lo hi)) M := rfl
theorem slR_tup {ds : List D} {lo hi : Option Int} {M : Mem} {Q : QD} : slR (.tup ds) lo hi M Q = Q (.tup (dcut ds lo hi)) M := rfl
theorem slR_str {z : Str} {lo hi : Option Int} {M : Mem} {Q : QD} : slR (.str z) lo hi M Q = Q (.str (cutS z lo hi)) M := rfl
def partR (d : D) (M : Mem) (Q : Option Int → Mem → Prop) : Prop := match d with
  | .int i => Q (some i) M
  | _ => False
theorem dPart_eq {t : DE} {δ : DS} {M : Mem} {Q : Option Int → Mem → Prop} {X : XD} : dPart t δ M Q X = t δ M (fun d M1 => partR d M1 Q) X := rfl
theorem partR_int {i : Int} {M : Mem} {Q : Option Int → Mem → Prop} : partR (.int i) M Q = Q (some i) M := rfl
theorem on1_cons {F : D → Mem → QD → Prop} {d : D} {M : Mem} {Q : QD} : on1 F [d] M Q = F (res M d) M Q := rfl
theorem on2_cons {F : D → D → Mem → QD → Prop} {d e : D} {M : Mem} {Q : QD} : on2 F [d, e] M Q = F (res M d) (res M e) M Q := rfl
theorem lenD_lst {xs : List D} {M : Mem} {Q : QD} : lenD (.lst xs) M Q = Q (.int xs.length) M := rfl
theorem lenD_tup {xs : List D} {M : Mem} {Q : QD} : lenD (.tup xs) M Q = Q (.int xs.length) M := rfl
theorem lenD_scr {xs : List Int} {M : Mem} {Q : QD} : lenD (.scr xs) M Q = Q (.int xs.length) M := rfl
theorem lenD_str {z : Str} {M : Mem} {Q : QD} : lenD (.str z) M Q = Q (.int z.length) M := rfl
theorem intD_int {i : Int} {M : Mem} {Q : QD} : DL.intD (.int i) M Q = Q (.int i) M := rfl
theorem intD_bl {k : Bool} {M : Mem} {Q : QD} : DL.intD (.bl k) M Q = Q (.int (cond k 1 0)) M := rfl
theorem strD_int {i : Int} {M : Mem} {Q : QD} : strD (.int i) M Q = (0 ≤ i ∧ i < 1000000000 ∧ Q (.str (toString i)) M) := rfl
theorem int2_int {g : Int → Int → Int} {i j : Int} {M : Mem} {Q : QD} : int2 g (.int i) (.int j) M Q = Q (.int (g i j)) M := rfl
theorem listM_lst {ds : List D} {M : Mem} {Q : QD} : listM (.lst ds) M Q = ∀ p, M p = none → Q (.obj p) (M.set p (.lst ds)) := rfl
theorem listF_lst {ds : List D} {M : Mem} {Q : QD} : listF (.lst ds) M Q = Q (.lst ds) M := rfl
theorem listM_tup {ds : List D} {M : Mem} {Q : QD} : listM (.tup ds) M Q = ∀ p, M p = none → Q (.obj p) (M.set p (.lst ds)) := rfl
theorem listF_tup {ds : List D} {M : Mem} {Q : QD} : listF (.tup ds) M Q = Q (.lst ds) M := rfl
theorem dictM_dic {kvs : List (Str × D)} {M : Mem} {Q : QD} : dictM (.dic kvs) M Q = ∀ p, M p = none → Q (.obj p) (M.set p (.dic kvs)) := rfl
theorem isiD_ty {d : D} {n : String} {M : Mem} {Q : QD} : isiD d (.ty n) M Q = el (isB n d) fun b => Q (.bl b) M := rfl
theorem oAppend_obj {a : Addr} {d : D} {M : Mem} {Q : QD} : oAppend (.obj a) [d] M Q = elL (M a) fun xs => xs.length < sizeLine ∧ Q .non (M.set a (.lst (xs ++ [d]))) := rfl
theorem oInsert_obj {a : Addr} {i : Int} {d : D} {M : Mem} {Q : QD} : oInsert (.obj a) [.int i, d] M Q = elL (M a) fun xs => xs.length < sizeLine ∧ 0 ≤ i ∧ i < 2 ^ 63 ∧ Q .non (M.set a (.lst (xs.take i.toNat ++ [d] ++ xs.drop i.toNat))) := rfl
theorem oPop_obj {a : Addr} {M : Mem} {Q : QD} : oPop (.obj a) [] M Q = elL (M a) fun xs => el xs[xs.length - 1]? fun d => Q d (M.set a (.lst xs.dropLast)) := rfl
theorem oPopAt_obj {a : Addr} {i : Int} {M : Mem} {Q : QD} : oPopAt (.obj a) [.int i] M Q = elL (M a) fun xs => 0 ≤ i ∧ i < 2 ^ 62 ∧ el xs[i.toNat]? fun d => Q d (M.set a (.lst (xs.eraseIdx i.toNat))) := rfl
def isLstR (d : D) : Prop := match d with
  | .lst _ => True
  | _ => False
theorem isLst_eq {d : D} {M : Mem} : isLst d M = isLstR (res M d) := rfl
theorem isLstR_lst {ds : List D} : isLstR (.lst ds) = True := rfl
theorem isStr_str {z : Str} {M : Mem} : isStr (.str z) M = True := rfl
theorem oSplit_str {a b : Str} {M : Mem} {Q : QD} : oSplit (.str a) [.str b] M Q = ((b.length == 0) = false ∧ a.length + 2 ≤ sizeLine ∧ (Txt.split a b).length ≤ sizeLine ∧ (∀ z ∈ Txt.split a b, strOk z = true) ∧ Q (.lst ((Txt.split a b).map .str)) M) := rfl
theorem oJoin_str {a : Str} {d : D} {M : Mem} {Q : QD} : oJoin (.str a) [d] M Q = ∃ ys : List Str, (res M d = .lst (ys.map .str) ∨ res M d = .tup (ys.map .str)) ∧ (ys.map (·.length)).sum + ys.length * a.length ≤ 16777216 ∧ strOk (Txt.join a ys) = true ∧ Q (.str (Txt.join a ys)) M := rfl
theorem itemsOf_lst {ds : List D} {M : Mem} {F : List D → (Mem → Prop) → Prop} : itemsOf (.lst ds) M F = F ds still := rfl
theorem itemsOf_tup {ds : List D} {M : Mem} {F : List D → (Mem → Prop) → Prop} : itemsOf (.tup ds) M F = F ds still := rfl
theorem itemsOf_str {z : Str} {M : Mem} {F : List D → (Mem → Prop) → Prop} : itemsOf (.str z) M F = F (signsD z) still := rfl
theorem itemsOf_obj {a : Addr} {M : Mem} {F : List D → (Mem → Prop) → Prop} : itemsOf (.obj a) M F = elL (M a) fun ds => F ds fun M' => M' a = some (.lst ds) := rfl
theorem rng1_int {j : Int} {F : List D → (Mem → Prop) → Prop} : rng1 [.int j] F = (-1000000 ≤ j ∧ j ≤ 1000000 ∧ F (rangeD 0 j.toNat) still) := rfl
theorem enumOf_lst {ds : List D} {M : Mem} {F : List D → (Mem → Prop) → Prop} : enumOf [.lst ds] M F = F (enumD 0 ds) still := rfl
theorem enumOf_obj {a : Addr} {M : Mem} {F : List D → (Mem → Prop) → Prop} : enumOf [.obj a] M F = elL (M a) fun xs => F (enumD 0 xs) fun M' => M' a = some (.lst xs) := rfl
theorem all_still {p : Prop} : ((∀ M, still M) ∧ p) = p := by simp
theorem two_tup {x y : D} {F : D → D → Prop} : two (.tup [x, y]) F = F x y := rfl
theorem insIs_obj {C a : Addr} {f : Str} {M : Mem} : insIs C f (.obj a) M = elI C (M a) fun fs => look fs f = none := rfl
theorem getFld_obj {C a : Addr} {f : Str} {M : Mem} {Q : QD} : getFld C f (.obj a) M Q = elI C (M a) fun fs => el (look fs f) fun d => Q d M := rfl
theorem setFld_obj {C a : Addr} {f : Str} {v : D} {M : Mem} {F : Mem → Prop} : setFld C f (.obj a) v M F = elI C (M a) fun fs => few 99 (fs.map (·.2)) ∧ F (M.set a (.ins C (dput fs f v))) := rfl
theorem putDic_obj {a : Addr} {s : Str} {v : D} {M : Mem} {F : Mem → Prop} : putDic (.obj a) (.str s) v M F = elD (M a) fun kvs => few 99 (kvs.map (·.2)) ∧ (kvs.map (·.1)).Nodup ∧ F (M.set a (.dic (dput kvs s v))) := rfl
/-! isinstance of data: a table -/
theorem isB_str_non : isB "str" (.non) = some false := (by decide +kernel : kitB "NoneType" "str" = some false)
theorem isB_str_bl (b : Bool) : isB "str" (.bl b) = some false := (by decide +kernel : kitB "bool" "str" = some false)
theorem isB_str_int (b : Int) : isB "str" (.int b) = some false := (by decide +kernel : kitB "int" "str" = some false)
theorem isB_str_str (b : Str) : isB "str" (.str b) = some true := (by decide +kernel : kitB "str" "str" = some true)
theorem isB_str_lst (b : List D) : isB "str" (.lst b) = some false := (by decide +kernel : kitB "list" "str" = some false)
theorem isB_str_tup (b : List D) : isB "str" (.tup b) = some false := (by decide +kernel : kitB "tuple" "str" = some false)
theorem isB_str_dic (b : List (Str × D)) : isB "str" (.dic b) = some false := (by decide +kernel : kitB "dict" "str" = some false)
theorem isB_int_non : isB "int" (.non) = some false := (by decide +kernel : kitB "NoneType" "int" = some false)
theorem isB_int_bl (b : Bool) : isB "int" (.bl b) = some true := (by decide +kernel : kitB "bool" "int" = some true)
theorem isB_int_int (b : Int) : isB "int" (.int b) = some true := (by decide +kernel : kitB "int" "int" = some true)
theorem isB_int_str (b : Str) : isB "int" (.str b) = some false := (by decide +kernel : kitB "str" "int" = some false)
theorem isB_int_lst (b : List D) : isB "int" (.lst b) = some false := (by decide +kernel : kitB "list" "int" = some false)
theorem isB_int_tup (b : List D) : isB "int" (.tup b) = some false := (by decide +kernel : kitB "tuple" "int" = some false)
theorem isB_int_dic (b : List (Str × D)) : isB "int" (.dic b) = some false := (by decide +kernel : kitB "dict" "int" = some false)
theorem isB_bool_non : isB "bool" (.non) = some false := (by decide +kernel : kitB "NoneType" "bool" = some false)
theorem isB_bool_bl (b : Bool) : isB "bool" (.bl b) = some true := (by decide +kernel : kitB "bool" "bool" = some true)
theorem isB_bool_int (b : Int) : isB "bool" (.int b) = some false := (by decide +kernel : kitB "int" "bool" = some false)
theorem isB_bool_str (b : Str) : isB "bool" (.str b) = some false := (by decide +kernel : kitB "str" "bool" = some false)
theorem isB_bool_lst (b : List D) : isB "bool" (.lst b) = some false := (by decide +kernel : kitB "list" "bool" = some false)
theorem isB_bool_tup (b : List D) : isB "bool" (.tup b) = some false := (by decide +kernel : kitB "tuple" "bool" = some false)
theorem isB_bool_dic (b : List (Str × D)) : isB "bool" (.dic b) = some false := (by decide +kernel : kitB "dict" "bool" = some false)
theorem isB_list_non : isB "list" (.non) = some false := (by decide +kernel : kitB "NoneType" "list" = some false)
theorem isB_list_bl (b : Bool) : isB "list" (.bl b) = some false := (by decide +kernel : kitB "bool" "list" = some false)
theorem isB_list_int (b : Int) : isB "list" (.int b) = some false := (by decide +kernel : kitB "int" "list" = some false)
theorem isB_list_str (b : Str) : isB "list" (.str b) = some false := (by decide +kernel : kitB "str" "list" = some false)
theorem isB_list_lst (b : List D) : isB "list" (.lst b) = some true := (by decide +kernel : kitB "list" "list" = some true)
theorem isB_list_tup (b : List D) : isB "list" (.tup b) = some false := (by decide +kernel : kitB "tuple" "list" = some false)
theorem isB_list_dic (b : List (Str × D)) : isB "list" (.dic b) = some false := (by decide +kernel : kitB "dict" "list" = some false)
theorem isB_tuple_non : isB "tuple" (.non) = some false := (by decide +kernel : kitB "NoneType" "tuple" = some false)
theorem isB_tuple_bl (b : Bool) : isB "tuple" (.bl b) = some false := (by decide +kernel : kitB "bool" "tuple" = some false)
theorem isB_tuple_int (b : Int) : isB "tuple" (.int b) = some false := (by decide +kernel : kitB "int" "tuple" = some false)
theorem isB_tuple_str (b : Str) : isB "tuple" (.str b) = some false := (by decide +kernel : kitB "str" "tuple" = some false)
theorem isB_tuple_lst (b : List D) : isB "tuple" (.lst b) = some false := (by decide +kernel : kitB "list" "tuple" = some false)
theorem isB_tuple_tup (b : List D) : isB "tuple" (.tup b) = some true := (by decide +kernel : kitB "tuple" "tuple" = some true)
theorem isB_tuple_dic (b : List (Str × D)) : isB "tuple" (.dic b) = some false := (by decide +kernel : kitB "dict" "tuple" = some false)
theorem el_some {α : Type} (d : α) (F : α → Prop) : el (some d) F = F d := rfl
theorem elL_lst (ds : List D) (F : List D → Prop) : elL (some (.lst ds)) F = F ds := rfl
theorem elD_dic (ds : List (Str × D)) (F : List (Str × D) → Prop) : elD (some (.dic ds)) F = F ds := rfl
theorem elI_ins (C : Addr) (ds : List (Str × D)) (F : List (Str × D) → Prop) : elI C (some (.ins C ds)) F = F ds := propext ⟨fun h => h.2, fun h => ⟨rfl, h⟩⟩
theorem frz_set_lst {p : Addr} {M : Mem} {ds : List D} {Q : QD} : frz (.obj p) (M.set p (.lst ds)) Q = Q (.lst ds) ((M.set p (.lst ds)).del p) := by
  rw [frz_obj]
  have : res (M.set p (.lst ds)) (.obj p) = .lst ds := by
    show resO p _ = _
    rw [Mem.set_same]; rfl
  rw [this]
  rfl
theorem frz_set_dic {p : Addr} {M : Mem} {ds : List (Str × D)} {Q : QD} : frz (.obj p) (M.set p (.dic ds)) Q = Q (.dic ds) ((M.set p (.dic ds)).del p) := by
  rw [frz_obj]
  have : res (M.set p (.dic ds)) (.obj p) = .dic ds := by
    show resO p _ = _
    rw [Mem.set_same]; rfl
  rw [this]
  rfl
/-- a comprehension whose parts only read, frozen -/
theorem lc_pure {i : Nat} {tt : DT} {te : DE} {δ : DS} {M : Mem} {P : Mem → Prop} {Q : QD} {items : List D} (p : D → Bool) (f : D → D)
    (h1 : ∀ x, x ∈ items → ∀ M', M.Sub M' → ∀ Qb : Bool → Mem → Prop, Qb (p x) M' → tt (δ.set i (some x)) M' Qb fun _ _ _ => False)
    (h2 : ∀ x, x ∈ items → p x = true → ∀ M', M.Sub M' → ∀ Qd : QD, Qd (f x) M' → te (δ.set i (some x)) M' Qd fun _ _ _ => False)
    (h : Q (.lst ((items.filter p).map f)) M) (hP : ∀ M', M.Sub M' → P M' := by exact fun _ _ => trivial) : ∀ D0, M D0 = none → lcL D0 i tt te δ P (fun M2 => frz (.obj D0) M2 Q) items [] (M.set D0 (.lst [])) := fun D0 hD => by
  refine lcL_pure hD hP p f h1 h2 ?_
  rw [frz_set_lst, Mem.del_set hD, List.nil_append]
  exact h
/-- without a test -/
theorem lc_map {i : Nat} {te : DE} {δ : DS} {M : Mem} {P : Mem → Prop} {Q : QD} {items : List D} (f : D → D)
    (h2 : ∀ x, x ∈ items → ∀ M', M.Sub M' → ∀ Qd : QD, Qd (f x) M' → te (δ.set i (some x)) M' Qd fun _ _ _ => False)
    (h : Q (.lst (items.map f)) M) (hP : ∀ M', M.Sub M' → P M' := by exact fun _ _ => trivial) : ∀ D0, M D0 = none → lcL D0 i dYes te δ P (fun M2 => frz (.obj D0) M2 Q) items [] (M.set D0 (.lst [])) := by
  refine lc_pure (fun _ => true) f (fun x _ M' _ Qb q => q) (fun x hx _ => h2 x hx) ?_ hP
  rw [List.filter_eq_self.mpr (fun _ _ => rfl)]
  exact h
/-- a comprehension that makes a list which may change -/
theorem lcm_pure {i : Nat} {tt : DT} {te : DE} {δ : DS} {M : Mem} {P : Mem → Prop} {Q : QD} {items : List D} (p : D → Bool) (f : D → D)
    (h1 : ∀ x, x ∈ items → ∀ M', M.Sub M' → ∀ Qb : Bool → Mem → Prop, Qb (p x) M' → tt (δ.set i (some x)) M' Qb fun _ _ _ => False)
    (h2 : ∀ x, x ∈ items → p x = true → ∀ M', M.Sub M' → ∀ Qd : QD, Qd (f x) M' → te (δ.set i (some x)) M' Qd fun _ _ _ => False)
    (h : ∀ D0, M D0 = none → Q (.obj D0) (M.set D0 (.lst ((items.filter p).map f)))) (hP : ∀ M', M.Sub M' → P M' := by exact fun _ _ => trivial) : ∀ D0, M D0 = none → lcL D0 i tt te δ P (fun M2 => Q (.obj D0) M2) items [] (M.set D0 (.lst [])) := fun D0 hD => by
  refine lcL_pure hD hP p f h1 h2 ?_
  rw [List.nil_append]
  exact h D0 hD
theorem lcm_map {i : Nat} {te : DE} {δ : DS} {M : Mem} {P : Mem → Prop} {Q : QD} {items : List D} (f : D → D)
    (h2 : ∀ x, x ∈ items → ∀ M', M.Sub M' → ∀ Qd : QD, Qd (f x) M' → te (δ.set i (some x)) M' Qd fun _ _ _ => False)
    (h : ∀ D0, M D0 = none → Q (.obj D0) (M.set D0 (.lst (items.map f)))) (hP : ∀ M', M.Sub M' → P M' := by exact fun _ _ => trivial) : ∀ D0, M D0 = none → lcL D0 i dYes te δ P (fun M2 => Q (.obj D0) M2) items [] (M.set D0 (.lst [])) := by
  refine lcm_pure (fun _ => true) f (fun x _ M' _ Qb q => q) (fun x hx _ => h2 x hx) (fun D0 hD => ?_) hP
  rw [List.filter_eq_self.mpr (fun _ _ => rfl)]
  exact h D0 hD
theorem eqv_nil (xs : List D) : D.eqv (.lst xs) (.lst []) = xs.isEmpty := by
  cases xs <;> rfl
theorem flat_map {α : Type} (n : Nat) (g : α → D) (h : ∀ a, flatN n (g a) = true) : ∀ xs : List α, flatL n (xs.map g) = true
  | [] => rfl
  | x :: xs => by
    rw [List.map_cons]
    unfold flatL
    rw [h x, flat_map n g h xs]
    rfl
theorem flatN_lst (n : Nat) (xs : List D) : flatN (n + 1) (.lst xs) = flatL n xs := by simp [flatN]
theorem flatN_tup (n : Nat) (xs : List D) : flatN (n + 1) (.tup xs) = flatL n xs := by simp [flatN]
theorem flatN_str (n : Nat) (z : Str) : flatN n (.str z) = true := by cases n <;> simp [flatN]
theorem flatN_int (n : Nat) (z : Int) : flatN n (.int z) = true := by cases n <;> simp [flatN]
theorem flatN_bl (n : Nat) (z : Bool) : flatN n (.bl z) = true := by cases n <;> simp [flatN]
theorem flatN_non (n : Nat) : flatN n .non = true := by cases n <;> simp [flatN]
theorem flatL_nil (n : Nat) : flatL n [] = true := rfl
theorem flatL_cons (n : Nat) (x : D) (xs : List D) : flatL n (x :: xs) = (flatN n x && flatL n xs) := by simp [flatL]
theorem cond_of {b : Bool} {A B : Prop} (h1 : b = true → A) (h2 : b = false → B) : cond b A B := by
  cases b with
  | true => exact h1 rfl
  | false => exact h2 rfl
theorem cond_dec {c : Prop} [Decidable c] {A B : Prop} (h1 : c → A) (h2 : ¬ c → B) : cond (decide c) A B := by
  by_cases h : c
  · rw [decide_eq_true h]; exact h1 h
  · rw [decide_eq_false h]; exact h2 h
theorem retD_of {Q : QD} {d : D} {M : Mem} (h : Q d M) : retD Q d M := ⟨M, Mem.Sub.refl M, h⟩
theorem retX_of {X : Addr → Mem → Prop} {c : Addr} {δ : DS} {M : Mem} (h : X c M) : retX X c δ M := ⟨M, Mem.Sub.refl M, h⟩
theorem res_obj {M : Mem} {a : Addr} {ds : List D} (h : M a = some (.lst ds)) : res M (.obj a) = .lst ds := by
  show resO a (M a) = _
  rw [h]; rfl
theorem res_objD {M : Mem} {a : Addr} {ds : List (Str × D)} (h : M a = some (.dic ds)) : res M (.obj a) = .dic ds := by
  show resO a (M a) = _
  rw [h]; rfl
theorem cpow_109 : CPow 10 9 = True := eq_true ⟨by decide, by decide, by decide⟩
theorem pow_109 : (10 : Int) ^ (Int.toNat 9) = 1000000000 := by decide
theorem small_line {n : Nat} (h : n ≤ 10000000) : n ≤ sizeLine := by rw [sizeLine_eq]; omega
theorem small_line' {n : Nat} (h : n < 10000000) : n < sizeLine := by rw [sizeLine_eq]; omega
theorem cdiv {a b : Int} (h : 0 < b) (h2 : b < 1073741824) : CDiv a b := ⟨h, h2⟩
/-- a comprehension in a comprehension: the outer one's names -/
theorem lookup_relabel {env : Env} {x : Str} : ∀ (names : List (Str × NameKind)), (names.map fun (n, k) => if (k == NameKind.free && env.scope.kind == .function && env.kindOf n == some .cell) then (n, NameKind.cell) else (n, k)).lookup x =
    (names.lookup x).map fun k => if (k == NameKind.free && env.scope.kind == .function && env.kindOf x == some .cell) then NameKind.cell else k
  | [] => rfl
  | (n, k) :: names => by
    rw [List.map_cons]
    by_cases h : x = n
    · subst h
      simp only [List.lookup_cons, beq_self_eq_true]
      split <;> simp_all
    · have hb : (x == n) = false := beq_eq_false_iff_ne.mpr h
      have ih := lookup_relabel (env := env) (x := x) names
      simp only
      split
      · rw [List.lookup_cons, hb]
        simp only
        rw [ih, List.lookup_cons, hb]
      · rw [List.lookup_cons, hb]
        simp only
        rw [ih, List.lookup_cons, hb]
theorem blkC_relabel {N : List Str} {sc scope : Scope} {own : List (Str × Nat)} {env : Env} (h : blkC N sc scope own = true) : blkC N (relabel sc env) scope own = true := by
  unfold blkC at h ⊢
  simp only [Bool.and_eq_true, List.all_eq_true] at h ⊢
  refine ⟨h.1, fun y hy => ?_⟩
  have q := h.2 y hy
  cases hk : y.2 with
  | free =>
    rw [hk] at q
    simp only at q ⊢
    unfold relabel
    simp only
    rw [lookup_relabel]
    cases hl : sc.names.lookup y.1 with
    | none => rw [hl] at q; cases q
    | some k =>
      rw [hl] at q
      have key : ∀ c : Bool, (match some (if c = true then NameKind.cell else k) with | some .cell => true | some .free => true | _ => false) = true := by
        intro c
        cases k <;> cases c <;> first | rfl | exact q
      exact key _
  | _ =>
    rw [hk] at q
    try exact q
theorem blkOk_nest {N : List Str} {sc scope : Scope} {own : List (Str × Nat)} {cl : List (Str × Addr)} {C : Addr} {env : Env} (h : blkC N sc scope own = true) : BlkOk N (compEnvC sc cl C env).scope scope own := blkOk_by (blkC_relabel h)
end DL

namespace My
open PySem PySem.Spec PyProof.Rows L2 DL
local macro_rules | `(tactic| walk_at "dl") => `(tactic| simp -implicitDefEqProofs only [DL.dNext, DL.dSeq, DL.dExpr, DL.dRet, DL.dIfS, DL.dSet, DL.dCont, DL.dRaise, DL.dFor, DL.dgName, DL.dgPair, DL.dTry, DL.dFn, DL.dMth, DL.dMk, DL.dFld, DL.dFldS, DL.dPut, DL.dVar, DL.slot, DL.dC, DL.dOp, DL.dUn, DL.oSub, DL.oMul, DL.oDiv, DL.oMod, DL.oPow, DL.oLt, DL.oLe, DL.oGt, DL.oGe, DL.oEq, DL.oNe, DL.oIn, DL.oNotIn, DL.dB, DL.dIsN, DL.dChain, DL.dAnd, DL.dOr, DL.dNot, DL.dAndV, DL.dOrV, DL.dNotV, DL.dIf, DL.dNil, DL.dCons, DL.few, DL.dLst, DL.dTup, DL.dLstM, DL.dFrz, DL.dPairs, DL.dDisp, DL.dDic0, DL.dSl, DL.dNoPart, DL.dCall, DL.dMet0L, DL.dMet, DL.dItems, DL.dRange1, DL.dEnum, DL.dLcM, DL.dwipe, DL.startD, DL.dNever, DL.el_some, DL.elL_lst, DL.elD_dic, DL.elI_ins, DL.res_non, DL.res_bl, DL.res_int, DL.res_str, DL.res_lst, DL.res_tupE, DL.res_dic, DL.res_scr, DL.res_ty, DL.oAdd_eq, DL.addR_int, DL.addR_str, DL.addR_lst, DL.addR_tup, DL.oAddM_eq, DL.addMR_lst, DL.oInt_eq, DL.intR_int, DL.oInt0_eq, DL.int0R_int, DL.oNeg_eq, DL.negR_int, DL.oEqN_eq, DL.eqR_some, DL.eqR_none, DL.eqS_non_non, DL.eqS_non_int, DL.eqS_non_bl, DL.eqS_non_str, DL.eqS_non_lst, DL.eqS_non_tup, DL.eqS_int_non, DL.eqS_int_int, DL.eqS_int_bl, DL.eqS_int_str, DL.eqS_int_lst, DL.eqS_int_tup, DL.eqS_bl_non, DL.eqS_bl_int, DL.eqS_bl_bl, DL.eqS_bl_str, DL.eqS_bl_lst, DL.eqS_bl_tup, DL.eqS_str_non, DL.eqS_str_int, DL.eqS_str_bl, DL.eqS_str_str, DL.eqS_str_lst, DL.eqS_str_tup, DL.eqS_lst_non, DL.eqS_lst_int, DL.eqS_lst_bl, DL.eqS_lst_str, DL.eqS_lst_lst, DL.eqS_lst_tup, DL.eqS_tup_non, DL.eqS_tup_int, DL.eqS_tup_bl, DL.eqS_tup_str, DL.eqS_tup_lst, DL.eqS_tup_tup, DL.eqS_obj_non, DL.eqS_non_obj, DL.eqS_obj_int, DL.eqS_int_obj, DL.eqS_obj_bl, DL.eqS_bl_obj, DL.eqS_obj_str, DL.eqS_str_obj, DL.eqS_obj_lst, DL.eqS_lst_obj, DL.eqS_obj_tup, DL.eqS_tup_obj, DL.eqS_obj_obj, DL.oInN_eq, DL.inR_lst, DL.inR_tup, DL.inR_str, DL.flatD_non, DL.flatD_bl, DL.flatD_int, DL.flatD_str, DL.asB_bl, DL.isN_non, DL.isN_bl, DL.isN_int, DL.isN_str, DL.isN_lst, DL.isN_tup, DL.isN_dic, DL.isN_scr, DL.isN_ty, DL.isN_obj, DL.frz_non, DL.frz_bl, DL.frz_int, DL.frz_str, DL.frz_lst, DL.frz_tup, DL.frz_dic, DL.frz_scr, DL.frz_ty, DL.oIx_eq, DL.ixR_lst, DL.ixR_tup, DL.ixR_scr, DL.ixR_str, DL.ixR_dic, DL.nth_0, DL.nth_1, DL.nth_2, DL.nth_3, DL.oSl_eq, DL.slR_lst, DL.slR_tup, DL.slR_str, DL.dPart_eq, DL.partR_int, DL.on1_cons, DL.on2_cons, DL.lenD_lst, DL.lenD_tup, DL.lenD_scr, DL.lenD_str, DL.intD_int, DL.intD_bl, DL.strD_int, DL.int2_int, DL.listM_lst, DL.listF_lst, DL.listM_tup, DL.listF_tup, DL.dictM_dic, DL.isiD_ty, DL.oAppend_obj, DL.oInsert_obj, DL.oPop_obj, DL.oPopAt_obj, DL.isLst_eq, DL.isLstR_lst, DL.isStr_str, DL.oSplit_str, DL.oJoin_str, DL.itemsOf_lst, DL.itemsOf_tup, DL.itemsOf_str, DL.rng1_int, DL.enumOf_lst, DL.two_tup, DL.insIs_obj, DL.getFld_obj, DL.setFld_obj, DL.putDic_obj, DL.isB_str_non, DL.isB_str_bl, DL.isB_str_int, DL.isB_str_str, DL.isB_str_lst, DL.isB_str_tup, DL.isB_str_dic, DL.isB_int_non, DL.isB_int_bl, DL.isB_int_int, DL.isB_int_str, DL.isB_int_lst, DL.isB_int_tup, DL.isB_int_dic, DL.isB_bool_non, DL.isB_bool_bl, DL.isB_bool_int, DL.isB_bool_str, DL.isB_bool_lst, DL.isB_bool_tup, DL.isB_bool_dic, DL.isB_list_non, DL.isB_list_bl, DL.isB_list_int, DL.isB_list_str, DL.isB_list_lst, DL.isB_list_tup, DL.isB_list_dic, DL.isB_tuple_non, DL.isB_tuple_bl, DL.isB_tuple_int, DL.isB_tuple_str, DL.isB_tuple_lst, DL.isB_tuple_tup, DL.isB_tuple_dic, Bool.cond_true, Bool.cond_false, L2.CDiv, Int.reduceLT, Int.reduceLE, true_and, and_true, cond_true, cond_false, List.map_cons, List.map_nil, List.set_cons_zero, List.set_cons_succ, List.set_nil, DL.cpow_109, DL.pow_109, DL.frz_set_lst, DL.frz_set_dic, Bool.not_true, Bool.not_false, DL.itemsOf_obj, DL.enumOf_obj, DL.all_still])
/-- the wishes as texts -/
def tr : Str := "read"
def tw : Str := "write"
theorem tr_ne_tw : ¬ tr = tw := by decide +kernel
theorem tw_ne_tr : ¬ tw = tr := by decide +kernel
/-- a cell of the script -/
def cellAt (ns : List Int) (k : Int) : Int := (ns[k.toNat]?).getD 0
/-- the signs of names -/
def signsL : List Nat := (Str.ofString "abcdefghijklmnopqrstuvwxyz0123456789").cps.toList
def nameOk (z : Str) : Bool := decide (1 ≤ z.length) && decide (z.length ≤ 12) && z.cps.toList.all fun c => decide (c ∈ signsL)
def isName : D → Bool
  | .str z => nameOk z
  | _ => false
def isWish : D → Bool
  | .str z => decide (z = Str.ofString "read") || decide (z = Str.ofString "write")
  | _ => false
/-- data whose kind is looked at -/
def okD : D → Bool
  | .scr _ => false
  | .obj _ => false
  | .ty _ => false
  | _ => true
theorem okD_non : okD .non = true := rfl
theorem okD_bl (b : Bool) : okD (.bl b) = true := rfl
theorem okD_int (b : Int) : okD (.int b) = true := rfl
theorem okD_str (b : Str) : okD (.str b) = true := rfl
theorem okD_lst (b : List D) : okD (.lst b) = true := rfl
theorem okD_tup (b : List D) : okD (.tup b) = true := rfl
theorem okD_dic (b : List (Str × D)) : okD (.dic b) = true := rfl
-- SIMP okD_non okD_bl okD_int okD_str okD_lst okD_tup okD_dic
theorem ofStr_ne {a b : Str} (h : decide (a = b) = false) : ¬ a = b := of_decide_eq_false h
theorem signs_len : (Str.ofString "abcdefghijklmnopqrstuvwxyz0123456789").cps.toList.length = 36 := by decide +kernel
def signAt (c : Int) : Nat := (signsL[(c % 36).toNat]?).getD 0
theorem signAt_mem (c : Int) : signAt c ∈ signsL := by
  have h1 := Int.emod_nonneg c (show (36 : Int) ≠ 0 by decide)
  have h2 := Int.emod_lt_of_pos c (show (0 : Int) < 36 by decide)
  have hl : (c % 36).toNat < signsL.length := by
    have : signsL.length = 36 := signs_len
    omega
  unfold signAt
  rw [List.getElem?_eq_getElem hl]
  exact List.getElem_mem hl
theorem nth_sign (c : Int) : nth signsL (c % 36) = some (signAt c) := by
  have h1 := Int.emod_nonneg c (show (36 : Int) ≠ 0 by decide)
  have h2 := Int.emod_lt_of_pos c (show (0 : Int) < 36 by decide)
  have hl : (c % 36).toNat < signsL.length := by
    have : signsL.length = 36 := signs_len
    omega
  rw [nth_toNat _ h1]
  unfold signAt
  rw [List.getElem?_eq_getElem hl]
  rfl
/-! one in the line: a name, whether that one wishes to read, how often passed -/
structure Wt where
  name : Str
  rd : Bool
  n : Int
def wishS (b : Bool) : Str := cond b (Str.ofString "read") (Str.ofString "write")
theorem wishS_t : wishS true = Str.ofString "read" := by unfold wishS; rw [cond_true]
theorem wishS_f : wishS false = Str.ofString "write" := by unfold wishS; rw [cond_false]
theorem wishS_read (b : Bool) : decide (wishS b = Str.ofString "read") = b := by cases b <;> decide +kernel
theorem wishS_write (b : Bool) : decide (wishS b = Str.ofString "write") = !b := by cases b <;> decide +kernel
def eW (w : Wt) : D := .tup [.str w.name, .str (wishS w.rd), .int w.n]
def eLine (l : List Wt) : List D := l.map eW
def optI : Option Nat → D
  | none => .non
  | some p => .int (p : Int)
/-- what is to be read is the list ds, whether it may change or not -/
def Vw (d : D) (ds : List D) (M : Mem) : Prop := d = .lst ds ∨ ∃ a, d = .obj a ∧ M a = some (.lst ds)
theorem Vw.lst (ds : List D) (M : Mem) : Vw (.lst ds) ds M := .inl rfl
theorem Vw.obj {a : Addr} {ds : List D} {M : Mem} (h : M a = some (.lst ds)) : Vw (.obj a) ds M := .inr ⟨a, rfl, h⟩
theorem Vw.res {d : D} {ds : List D} {M : Mem} (h : Vw d ds M) : res M d = .lst ds := by
  rcases h with rfl | ⟨a, rfl, h⟩
  · rfl
  · exact res_obj h
theorem Vw.sub {d : D} {ds : List D} {M M' : Mem} (h : Vw d ds M) (s : M.Sub M') : Vw d ds M' := by
  rcases h with rfl | ⟨a, rfl, h⟩
  · exact .inl rfl
  · exact .inr ⟨a, rfl, s a _ h⟩
theorem Vw.enum {d : D} {ds : List D} {M : Mem} (h : Vw d ds M) {F : List D → (Mem → Prop) → Prop} (k : ∀ P : Mem → Prop, P M → F (enumD 0 ds) P) : enumOf [d] M F := by
  rcases h with rfl | ⟨a, rfl, h⟩
  · exact k _ trivial
  · rw [enumOf_obj, h]
    exact k _ h
theorem Vw.eqS_lst {d : D} {ds es : List D} {M : Mem} (h : Vw d ds M) : eqS d (.lst es) = none := by
  rcases h with rfl | ⟨a, rfl, h⟩ <;> rfl
theorem nth_eLine {l : List Wt} {i : Int} (h0 : 0 ≤ i) {w : Wt} (h : l[i.toNat]? = some w) : nth (eLine l) i = some (eW w) := by
  rw [nth_toNat _ h0]
  unfold eLine
  rw [List.getElem?_map, h]
  rfl
/-! who begins -/
def canB (s r : Int) (w rd : Bool) : Bool := cond rd (!w && decide (r < s)) (!w && decide (r = 0))
def firstReader (l : List Wt) : Option Nat := l.findIdx? (·.rd)
def nextPlace (l : List Wt) (s p r : Int) (w : Bool) : Option Nat :=
  match l with
  | [] => none
  | x :: _ =>
    if canB s r w x.rd = true then some 0
    else if x.rd = true ∨ r = 0 then none
    else match firstReader l with
      | none => none
      | some k => if canB s r w true = false then none else if (l.take k).any (fun o => decide (p ≤ o.n)) = true then none else some k
/-! ranges, equal things -/
theorem rangeD_len (n : Nat) : (rangeD 0 n).length = n := by unfold rangeD; rw [List.length_map, List.length_range]
theorem rangeD_get {n k : Nat} {x : D} (h : (rangeD 0 n)[k]? = some x) : k < n ∧ x = .int (k : Int) := by
  unfold rangeD at h
  rw [List.getElem?_map] at h
  by_cases hk : k < n
  · rw [List.getElem?_range hk] at h
    exact ⟨hk, by simpa using h.symm⟩
  · rw [List.getElem?_eq_none (by rw [List.length_range]; omega)] at h
    cases h
theorem eqv_str (a b : Str) : D.eqv (.str a) (.str b) = decide (a = b) := by
  show (a == b) = _
  by_cases h : a = b
  · subst h; rw [beq_self_eq_true, decide_eq_true rfl]
  · rw [beq_eq_false_iff_ne.mpr h, decide_eq_false h]
theorem eqv_int (a b : Int) : D.eqv (.int a) (.int b) = decide (a = b) := by
  show (a == b) = _
  by_cases h : a = b
  · subst h; rw [beq_self_eq_true, decide_eq_true rfl]
  · rw [beq_eq_false_iff_ne.mpr h, decide_eq_false h]
theorem eqv_lst_cons (x y : D) (xs ys : List D) : D.eqv (.lst (x :: xs)) (.lst (y :: ys)) = (D.eqv x y && D.eqv (.lst xs) (.lst ys)) := rfl
theorem eqv_lst_nil : D.eqv (.lst []) (.lst []) = true := rfl
theorem eqv_lst_nc (y : D) (ys : List D) : D.eqv (.lst []) (.lst (y :: ys)) = false := rfl
theorem eqv_lst_cn (y : D) (ys : List D) : D.eqv (.lst (y :: ys)) (.lst []) = false := rfl
theorem eqv_tup (xs ys : List D) : D.eqv (.tup xs) (.tup ys) = D.eqv (.lst xs) (.lst ys) := rfl
/-- equal, as the lists that they were made of -/
theorem eqv_map {α : Type} (g : α → D) (hg : ∀ a b, D.eqv (g a) (g b) = true ↔ a = b) : ∀ xs ys : List α, D.eqv (.lst (xs.map g)) (.lst (ys.map g)) = true ↔ xs = ys
  | [], [] => ⟨fun _ => rfl, fun _ => rfl⟩
  | x :: xs, [] => ⟨(fun h => nomatch (show false = true from h)), (fun h => nomatch h)⟩
  | [], y :: ys => ⟨(fun h => nomatch (show false = true from h)), (fun h => nomatch h)⟩
  | x :: xs, y :: ys => by
    rw [List.map_cons, List.map_cons, eqv_lst_cons, Bool.and_eq_true, hg x y, eqv_map g hg xs ys, List.cons.injEq]
theorem wishS_inj {a b : Bool} (h : wishS a = wishS b) : a = b := by
  have := wishS_read a
  rw [h, wishS_read b] at this
  exact this.symm
theorem eqv_eW (a b : Wt) : D.eqv (eW a) (eW b) = true ↔ a = b := by
  unfold eW
  rw [eqv_tup, eqv_lst_cons, eqv_lst_cons, eqv_lst_cons, eqv_str, eqv_str, eqv_int, eqv_lst_nil]
  cases a with | mk a1 a2 a3 => cases b with | mk b1 b2 b3 =>
  simp only [Bool.and_eq_true, decide_eq_true_eq, Wt.mk.injEq, and_true]
  exact ⟨fun ⟨h1, h2, h3⟩ => ⟨h1, wishS_inj h2, h3⟩, fun ⟨h1, h2, h3⟩ => ⟨h1, by rw [h2], h3⟩⟩
theorem eqv_eLine (a b : List Wt) : D.eqv (.lst (eLine a)) (.lst (eLine b)) = true ↔ a = b := eqv_map eW eqv_eW a b
theorem flat_eLine (l : List Wt) : flatN 9 (.lst (eLine l)) = true := by
  rw [flatN_lst]
  exact flat_map _ _ (fun w => by unfold eW; rw [flatN_tup, flatL_cons, flatL_cons, flatL_cons, flatN_str, flatN_str, flatN_int, flatL_nil]; rfl) l
theorem flat_names (l : List Str) : flatN 9 (.lst (l.map .str)) = true := by
  rw [flatN_lst]
  exact flat_map _ _ (fun w => flatN_str _ _) l
theorem len_eLine (l : List Wt) : (eLine l).length = l.length := List.length_map _
theorem nth_eL {l : List Wt} {k : Nat} {w : Wt} (h : l[k]? = some w) : nth (eLine l) (k : Int) = some (eW w) := nth_eLine (by omega) (by rw [Int.toNat_natCast]; exact h)
theorem nth_mod {α : Type} (xs : List α) (x : Int) (n : Nat) (h : xs.length = n) (h0 : 0 < n) : ∃ d ∈ xs, nth xs (x % (n : Int)) = some d := by
  have h1 := Int.emod_nonneg x (show (n : Int) ≠ 0 by omega)
  have h2 := Int.emod_lt_of_pos x (show (0 : Int) < (n : Int) by omega)
  rw [nth_toNat _ h1]
  have : (x % (n : Int)).toNat < xs.length := by omega
  exact ⟨_, List.getElem_mem this, List.getElem?_eq_getElem this⟩
theorem nth_names {names : List Str} {k : Nat} (h : k < names.length) : ∃ z ∈ names, nth (names.map D.str) (k : Int) = some (.str z) := by
  rw [nth_nat, List.getElem?_map, List.getElem?_eq_getElem h]
  exact ⟨_, List.getElem_mem h, rfl⟩
theorem res_set_lst {M : Mem} {p : Addr} {ds : List D} : res (M.set p (.lst ds)) (.obj p) = .lst ds := res_obj Mem.set_same
-- SIMP res_set_lst Mem.set_same Mem.set_set
/-! names in lists of names -/
theorem inD_names (z : Str) (l : List Str) : inD (.str z) (l.map .str) = decide (z ∈ l) := by
  unfold inD
  induction l with
  | nil => rfl
  | cons y l ih =>
    rw [List.map_cons, List.any_cons, ih]
    show ((y == z) || decide (z ∈ l)) = decide (z ∈ y :: l)
    by_cases h : y = z
    · subst h; simp
    · rw [beq_eq_false_iff_ne.mpr h, Bool.false_or]
      by_cases h2 : z ∈ l
      · rw [decide_eq_true h2, decide_eq_true (List.mem_cons_of_mem _ h2)]
      · rw [decide_eq_false h2, decide_eq_false (fun hh => by
          rcases List.mem_cons.mp hh with e | e
          · exact h e.symm
          · exact h2 e)]
theorem flatD_names (l : List Str) : (l.map D.str).all flatD = true := by
  rw [List.all_map]
  exact List.all_eq_true.mpr fun _ _ => rfl
/-- the first word of a tuple -/
def fst : D → D
  | .tup (d :: _) => d
  | _ => .non
theorem fst_eLine (l : List Wt) : (eLine l).map fst = (l.map (·.name)).map .str := by
  unfold eLine
  rw [List.map_map, List.map_map]
  rfl
theorem len_le_of_subset {α : Type} [DecidableEq α] : ∀ {A B : List α}, A.Nodup → (∀ x ∈ A, x ∈ B) → A.length ≤ B.length
  | [], _, _, _ => Nat.zero_le _
  | x :: A, B, hn, hs => by
    have hx := hs x (List.mem_cons_self ..)
    have hn := List.nodup_cons.mp hn
    have := len_le_of_subset (A := A) (B := B.erase x) hn.2 fun y hy => by
      refine (List.mem_erase_of_ne ?_).mpr (hs y (List.mem_cons_of_mem _ hy))
      rintro rfl
      exact hn.1 hy
    rw [List.length_erase_of_mem hx] at this
    have := List.length_pos_of_mem hx
    rw [List.length_cons]
    omega
theorem fresh_of {α : Type} [DecidableEq α] {A B : List α} (hn : A.Nodup) (h : B.length < A.length) : ∃ x ∈ A, x ∉ B := by
  refine Classical.byContradiction fun hh => ?_
  have := len_le_of_subset hn (B := B) fun x hx => Classical.byContradiction fun hb => hh ⟨x, hx, hb⟩
  omega
/-- all signs are signs of names -/
def good (z : Str) : Prop := ∀ c ∈ z.cps.toList, c ∈ signsL
theorem good_cut {z : Str} (h : good z) (lo hi : Option Int) : good (cutS z lo hi) := fun c hc => h c (List.mem_of_mem_drop (List.mem_of_mem_take (by simpa [cutS] using hc)))
theorem app_list (a b : Str) : (a ++ b).cps.toList = a.cps.toList ++ b.cps.toList := by
  show (a.cps ++ b.cps).toList = _
  exact Array.toList_append
theorem good_app {a b : Str} (h : good a) (k : good b) : good (a ++ b) := fun c hc => by
  rw [app_list] at hc
  rcases List.mem_append.mp hc with q | q
  · exact h c q
  · exact k c q
theorem good_one (c : Int) : good ⟨#[signAt c]⟩ := fun x hx => by
  have : x = signAt c := by simpa using hx
  subst this
  exact signAt_mem c
theorem str_len (z : Str) : z.cps.toList.length = z.length := by
  rw [Array.length_toList]; rfl
theorem nameOk_of {z : Str} (h1 : 1 ≤ z.length) (h2 : z.length ≤ 12) (h : good z) : nameOk z = true := by
  unfold nameOk
  rw [decide_eq_true h1, decide_eq_true h2]
  simp only [Bool.true_and, List.all_eq_true]
  exact fun c hc => decide_eq_true (h c hc)
theorem nameOk_good {z : Str} (h : nameOk z = true) : good z ∧ 1 ≤ z.length ∧ z.length ≤ 12 := by
  unfold nameOk at h
  simp only [Bool.and_eq_true, decide_eq_true_eq, List.all_eq_true] at h
  exact ⟨fun c hc => h.2 c hc, h.1.1, h.1.2⟩
theorem cut_hi_len (z : Str) {k : Int} (h : 0 ≤ k) : (cutS z none (some k)).length = min k.toNat z.length := by
  obtain ⟨n, rfl⟩ := Int.eq_ofNat_of_zero_le h
  show (((z.cps.toList.drop (HT.sIx z.length 0 none)).take (HT.sIx z.length z.length (some (n : Int)) - HT.sIx z.length 0 none)).toArray).size = _
  rw [HT.sIx_none, HT.sIx_nat, List.size_toArray, List.length_take, List.length_drop, str_len]
  simp only [Int.toNat_natCast]
  omega
theorem cut_lo_len (z : Str) {k : Int} (h : 0 ≤ k) : (cutS z (some k) none).length = z.length - min k.toNat z.length := by
  obtain ⟨n, rfl⟩ := Int.eq_ofNat_of_zero_le h
  show (((z.cps.toList.drop (HT.sIx z.length 0 (some (n : Int)))).take (HT.sIx z.length z.length none - HT.sIx z.length 0 (some (n : Int)))).toArray).size = _
  rw [HT.sIx_none, HT.sIx_nat, List.size_toArray, List.length_take, List.length_drop, str_len]
  simp only [Int.toNat_natCast]
  omega
theorem num_good {n : Nat} (h : n < 100) : good (Str.ofString (toString (n : Int))) ∧ 1 ≤ (Str.ofString (toString (n : Int))).length ∧ (Str.ofString (toString (n : Int))).length ≤ 2 := by
  have e : (Str.ofString (toString ((n : Nat) : Int))).cps.toList = TL.numL n := TL.tl_num n
  have hl : (Str.ofString (toString ((n : Nat) : Int))).length = (TL.numL n).length := by rw [← e, str_len]
  refine ⟨fun c hc => ?_, ?_, ?_⟩
  · rw [e] at hc
    have hd := TL.numL_digits n c hc
    have all : ∀ d : Nat, d < 58 → 48 ≤ d → d ∈ signsL := by decide +kernel
    exact all c (by omega) hd.1
  · rw [hl]
    have := TL.numL_ne n
    cases q : TL.numL n with
    | nil => exact absurd q this
    | cons _ _ => simp
  · rw [hl]
    exact TL.numL_len (k := 2) (by decide) (by omega)
/-- a comprehension over a range -/
theorem lc_rangeD {i : Nat} {te : DE} {δ : DS} {M : Mem} {P : Mem → Prop} {Q : QD} {n : Nat} (g : Nat → D)
    (h2 : ∀ k, k < n → ∀ M', M.Sub M' → ∀ Qd : QD, Qd (g k) M' → te (δ.set i (some (.int (k : Int)))) M' Qd fun _ _ _ => False)
    (h : Q (.lst ((List.range n).map g)) M) (hP : ∀ M', M.Sub M' → P M' := by exact fun _ _ => trivial) : ∀ D0, M D0 = none → lcL D0 i dYes te δ P (fun M2 => frz (.obj D0) M2 Q) (rangeD 0 n) [] (M.set D0 (.lst [])) := by
  refine lc_map (fun x => match x with | .int j => g j.toNat | _ => .non) (fun x hx M' hs Qd q => ?_) ?_ hP
  · unfold rangeD at hx
    obtain ⟨k, hk, rfl⟩ := List.mem_map.mp hx
    have hk := List.mem_range.mp hk
    have e : (0 : Int) + (k : Int) = (k : Int) := Int.zero_add _
    rw [e] at q ⊢
    exact h2 k hk M' hs Qd q
  · unfold rangeD
    rw [List.map_map]
    have : ((fun x => match x with | D.int j => g j.toNat | _ => .non) ∘ fun i : Nat => D.int (0 + (i : Int))) = g := by
      funext k
      show g ((0 : Int) + (k : Int)).toNat = g k
      congr 1
      omega
    rw [this]
    exact h
theorem Vw.eqS {d e : D} {ds es : List D} {M M' : Mem} (h : Vw d ds M) (k : Vw e es M') : DL.eqS d e = none := by
  rcases h with rfl | ⟨a, rfl, h⟩ <;> rcases k with rfl | ⟨b, rfl, k⟩ <;> rfl
theorem filter_no {α : Type} (xs : List α) : xs.filter (fun _ => false) = [] := by
  rw [List.filter_eq_nil_iff]
  intro _ _ h
  cases h
theorem Vw.items {d : D} {ds : List D} {M : Mem} (h : Vw d ds M) {F : List D → (Mem → Prop) → Prop} (k : ∀ P : Mem → Prop, (∀ M', M.Sub M' → P M') → F ds P) : itemsOf d M F := by
  rcases h with rfl | ⟨a, rfl, h⟩
  · exact k _ fun _ _ => trivial
  · rw [itemsOf_obj, h]
    exact k _ fun M' s => s a _ h
/-! rows of journals -/
inductive Rw where
  | came (z : Str) (rd : Bool)
  | begins (z : Str) (rd : Bool)
  | left (z : Str)
  | asked (z : Str)
  | eased (z : Str)
namespace Rw
def name : Rw → Str
  | came z _ => z
  | begins z _ => z
  | left z => z
  | asked z => z
  | eased z => z
def words : Rw → List Str
  | came z b => [Str.ofString "came", z, wishS b]
  | begins z b => [Str.ofString "begins", z, wishS b]
  | left z => [Str.ofString "left", z]
  | asked z => [Str.ofString "asked", z]
  | eased z => [Str.ofString "eased", z]
end Rw
def eR (r : Rw) : D := .tup (r.words.map .str)
def eRows (l : List Rw) : List D := l.map eR
theorem words_inj {a b : Rw} (h : a.words = b.words) : a = b := by
  cases a <;> cases b <;> simp only [Rw.words, List.cons.injEq, and_true, and_false, reduceCtorEq] at h
  all_goals first
    | exact absurd h.1 (by decide +kernel)
    | (obtain ⟨_, rfl, h⟩ := h; rw [wishS_inj h])
    | (obtain ⟨_, rfl⟩ := h; rfl)
theorem eqv_strs (a b : List Str) : D.eqv (.lst (a.map .str)) (.lst (b.map .str)) = true ↔ a = b := eqv_map .str (fun x y => by rw [eqv_str, decide_eq_true_iff]) a b
theorem eqv_eR (a b : Rw) : D.eqv (eR a) (eR b) = true ↔ a = b := by
  unfold eR
  rw [eqv_tup, eqv_strs]
  exact ⟨words_inj, fun h => by rw [h]⟩
theorem eqv_eRows (a b : List Rw) : D.eqv (.lst (eRows a)) (.lst (eRows b)) = true ↔ a = b := eqv_map eR eqv_eR a b
theorem flat_strs (n : Nat) (l : List Str) : flatL n (l.map .str) = true := flat_map _ _ (fun w => flatN_str _ _) l
theorem flat_eRows (l : List Rw) : flatN 9 (.lst (eRows l)) = true := by
  rw [flatN_lst]
  exact flat_map _ _ (fun r => by unfold eR; rw [flatN_tup]; exact flat_strs _ _) l
theorem len_eRows (l : List Rw) : (eRows l).length = l.length := List.length_map _
theorem eRows_app (a b : List Rw) : eRows (a ++ b) = eRows a ++ eRows b := List.map_append
/-! plain signs -/
def plain (z : Str) : Prop := ∀ c ∈ z.cps.toList, c < 256
theorem good_plain {z : Str} (h : good z) : plain z := fun c hc => by
  have all : ∀ d ∈ signsL, d < 256 := by decide +kernel
  exact all c (h c hc)
theorem plain_app {a b : Str} (h : plain a) (k : plain b) : plain (a ++ b) := fun c hc => by
  rw [app_list] at hc
  rcases List.mem_append.mp hc with q | q
  · exact h c q
  · exact k c q
theorem strOk_plain {z : Str} (h : plain z) (k : z.length ≤ sizeLine) : strOk z = true := strOk_iff.mpr ⟨fun c hc => by have := h c hc; omega, k⟩
theorem mem_joinL {S : List Nat} {c : Nat} : ∀ {ps : List (List Nat)}, c ∈ TL.joinL S ps → c ∈ S ∨ ∃ p ∈ ps, c ∈ p
  | [], h => by cases h
  | [p], h => .inr ⟨p, List.mem_singleton.mpr rfl, h⟩
  | p :: q :: r, h => by
    have h : c ∈ p ++ (S ++ TL.joinL S (q :: r)) := h
    rcases List.mem_append.mp h with h | h
    · exact .inr ⟨p, List.mem_cons_self .., h⟩
    · rcases List.mem_append.mp h with h | h
      · exact .inl h
      · rcases mem_joinL h with h | ⟨x, hx, h⟩
        · exact .inl h
        · exact .inr ⟨x, List.mem_cons_of_mem _ hx, h⟩
theorem tl_joinT (y : Str) (parts : List Str) : (Txt.join y parts).cps.toList = TL.joinL y.cps.toList (parts.map fun z => z.cps.toList) := by
  rw [TL.join_eq]
  exact TL.tl_join y parts
theorem plain_join {y : Str} {ps : List Str} (hy : plain y) (h : ∀ p ∈ ps, plain p) : plain (Txt.join y ps) := fun c hc => by
  rw [tl_joinT] at hc
  rcases mem_joinL hc with q | ⟨p, hp, q⟩
  · exact hy c q
  · obtain ⟨z, hz, rfl⟩ := List.mem_map.mp hp
    exact h z hz c q
theorem join_len (y : Str) (ps : List Str) : (Txt.join y ps).length ≤ (ps.map (·.length)).sum + ps.length * y.length := by
  rw [TL.join_eq]
  exact StrLaws.join_length_le y ps
/-! the texts of rows -/
def sp : Str := Str.ofString " "
def nl : Str := Str.ofString "\n"
theorem sp_tl : TL.tl sp = [32] := by decide +kernel
theorem nl_tl : TL.tl nl = [10] := by decide +kernel
theorem sp_len : sp.length = 1 := by decide +kernel
theorem nl_len : nl.length = 1 := by decide +kernel
theorem plain_lit : plain sp ∧ plain nl ∧ plain (Str.ofString "came") ∧ plain (Str.ofString "begins") ∧ plain (Str.ofString "left") ∧ plain (Str.ofString "asked") ∧ plain (Str.ofString "eased") ∧ plain (wishS true) ∧ plain (wishS false) ∧ plain (Str.ofString "") := by
  unfold plain
  decide +kernel
/-- no blank, no line end, not long, plain -/
def wordy (z : Str) : Prop := plain z ∧ 32 ∉ z.cps.toList ∧ 10 ∉ z.cps.toList ∧ z.length ≤ 12
theorem wordy_lit : wordy (Str.ofString "came") ∧ wordy (Str.ofString "begins") ∧ wordy (Str.ofString "left") ∧ wordy (Str.ofString "asked") ∧ wordy (Str.ofString "eased") ∧ wordy (wishS true) ∧ wordy (wishS false) := by
  unfold wordy plain
  decide +kernel
theorem wordy_name {z : Str} (h : nameOk z = true) : wordy z := by
  obtain ⟨h1, h2, h3⟩ := nameOk_good h
  have n1 : (32 : Nat) ∉ signsL := by decide +kernel
  have n2 : (10 : Nat) ∉ signsL := by decide +kernel
  exact ⟨good_plain h1, fun q => n1 (h1 _ q), fun q => n2 (h1 _ q), h3⟩
theorem wordy_words {r : Rw} (h : nameOk r.name = true) : (∀ z ∈ r.words, wordy z) ∧ r.words ≠ [] ∧ r.words.length ≤ 3 := by
  have hz := wordy_name h
  obtain ⟨l1, l2, l3, l4, l5, l6, l7⟩ := wordy_lit
  have hw : ∀ b, wordy (wishS b) := fun b => match b with | true => l6 | false => l7
  cases r <;> refine ⟨fun z hm => ?_, by simp [Rw.words], by simp [Rw.words]⟩ <;> simp only [Rw.words, List.mem_cons, List.not_mem_nil, or_false] at hm
  · rcases hm with rfl | rfl | rfl
    · exact l1
    · exact hz
    · exact hw _
  · rcases hm with rfl | rfl | rfl
    · exact l2
    · exact hz
    · exact hw _
  · rcases hm with rfl | rfl
    · exact l3
    · exact hz
  · rcases hm with rfl | rfl
    · exact l4
    · exact hz
  · rcases hm with rfl | rfl
    · exact l5
    · exact hz
def bodyOf (r : Rw) : Str := Txt.join sp r.words
def lineOf (r : Rw) : Str := bodyOf r ++ nl
def textOf (l : List Rw) : Str := Txt.join (Str.ofString "") (l.map lineOf)
theorem sum_le {l : List Str} {k : Nat} (h : ∀ z ∈ l, z.length ≤ k) : (l.map (·.length)).sum ≤ l.length * k := by
  induction l with
  | nil => simp
  | cons z l ih =>
    rw [List.map_cons, List.sum_cons, List.length_cons, Nat.succ_mul]
    have := h z (List.mem_cons_self ..)
    have := ih fun z hz => h z (List.mem_cons_of_mem _ hz)
    omega
theorem words_size {r : Rw} (h : nameOk r.name = true) : (r.words.map (·.length)).sum + r.words.length * sp.length ≤ 39 := by
  obtain ⟨h1, _, h3⟩ := wordy_words h
  have := sum_le (k := 12) fun z hz => (h1 z hz).2.2.2
  rw [sp_len]
  omega
theorem body_len {r : Rw} (h : nameOk r.name = true) : (bodyOf r).length ≤ 39 := Nat.le_trans (join_len _ _) (words_size h)
theorem body_plain {r : Rw} (h : nameOk r.name = true) : plain (bodyOf r) := plain_join plain_lit.1 fun z hz => ((wordy_words h).1 z hz).1
theorem line_len {r : Rw} (h : nameOk r.name = true) : (lineOf r).length ≤ 40 := by
  unfold lineOf
  rw [len_append, nl_len]
  have := body_len h
  omega
theorem line_plain {r : Rw} (h : nameOk r.name = true) : plain (lineOf r) := plain_app (body_plain h) plain_lit.2.1
theorem lines_size {l : List Rw} (h : ∀ r ∈ l, nameOk r.name = true) : ((l.map lineOf).map (·.length)).sum + (l.map lineOf).length * (Str.ofString "").length ≤ l.length * 40 := by
  have e : (Str.ofString "").length = 0 := by decide +kernel
  rw [e]
  have := sum_le (l := l.map lineOf) (k := 40) fun z hz => by
    obtain ⟨r, hr, rfl⟩ := List.mem_map.mp hz
    exact line_len (h r hr)
  rw [List.length_map] at this
  omega
theorem text_len {l : List Rw} (h : ∀ r ∈ l, nameOk r.name = true) : (textOf l).length ≤ l.length * 40 := Nat.le_trans (join_len _ _) (lines_size h)
theorem text_plain {l : List Rw} (h : ∀ r ∈ l, nameOk r.name = true) : plain (textOf l) := plain_join plain_lit.2.2.2.2.2.2.2.2.2 fun z hz => by
  obtain ⟨r, hr, rfl⟩ := List.mem_map.mp hz
  exact line_plain (h r hr)
theorem joinL_nil : ∀ ps : List (List Nat), TL.joinL [] ps = ps.flatten
  | [] => rfl
  | [p] => by simp [TL.joinL]
  | p :: q :: r => by
    show p ++ ([] ++ TL.joinL [] (q :: r)) = _
    rw [List.nil_append, joinL_nil (q :: r)]
    rfl
theorem text_tl (l : List Rw) : (textOf l).cps.toList = (l.map fun r => (lineOf r).cps.toList).flatten := by
  unfold textOf
  rw [tl_joinT, List.map_map]
  have : (Str.ofString "").cps.toList = [] := by decide +kernel
  rw [this, joinL_nil]
  rfl
theorem text_nil : textOf [] = Str.ofString "" := by
  refine TL.ext_tl ?_
  show (textOf []).cps.toList = _
  rw [text_tl]
  decide +kernel
theorem text_app (l : List Rw) (r : Rw) : textOf (l ++ [r]) = textOf l ++ lineOf r := by
  refine TL.ext_tl ?_
  show (textOf (l ++ [r])).cps.toList = (textOf l ++ lineOf r).cps.toList
  rw [text_tl, app_list, text_tl, List.map_append, List.flatten_append]
  simp
theorem split_body {r : Rw} (h : nameOk r.name = true) : Txt.split (bodyOf r) sp = r.words :=
  TL.split_join (s := 32) (S := []) sp_tl (by decide +kernel) (wordy_words h).2.1 fun p hp => ((wordy_words h).1 p hp).2.1
theorem joinL_ends : ∀ ps : List (List Nat), TL.joinL [10] (ps ++ [[]]) = (ps.map fun p => p ++ [10]).flatten
  | [] => rfl
  | [p] => by simp [TL.joinL]
  | p :: q :: r => by
    show p ++ ([10] ++ TL.joinL [10] (q :: (r ++ [[]]))) = _
    rw [show q :: (r ++ [[]]) = (q :: r) ++ [[]] from rfl, joinL_ends (q :: r), ← List.append_assoc]
    rfl
theorem body_no_nl {r : Rw} (h : nameOk r.name = true) : 10 ∉ (bodyOf r).cps.toList := fun hm => by
  unfold bodyOf at hm
  rw [tl_joinT] at hm
  rcases mem_joinL hm with q | ⟨p, hp, q⟩
  · have : (10 : Nat) ∉ sp.cps.toList := by decide +kernel
    exact this q
  · obtain ⟨z, hz, rfl⟩ := List.mem_map.mp hp
    exact ((wordy_words h).1 z hz).2.2.1 q
theorem split_text {l : List Rw} (h : ∀ r ∈ l, nameOk r.name = true) : Txt.split (textOf l) nl = l.map bodyOf ++ [Str.ofString ""] := by
  have e : textOf l = Txt.join nl (l.map bodyOf ++ [Str.ofString ""]) := by
    refine TL.ext_tl ?_
    show (textOf l).cps.toList = _
    rw [text_tl]
    show _ = (Txt.join nl _).cps.toList
    rw [tl_joinT, List.map_append, List.map_map]
    have e1 : nl.cps.toList = [10] := nl_tl
    have e2 : ([Str.ofString ""].map fun z => z.cps.toList) = [[]] := by decide +kernel
    rw [e1, e2, joinL_ends, List.map_map]
    congr 1
    refine List.map_congr_left fun r hr => ?_
    show (bodyOf r ++ nl).cps.toList = (bodyOf r).cps.toList ++ [10]
    rw [app_list, e1]
  rw [e]
  refine TL.split_join (s := 10) (S := []) nl_tl (by decide +kernel) (by simp) fun p hp => ?_
  rcases List.mem_append.mp hp with q | q
  · obtain ⟨r, hr, rfl⟩ := List.mem_map.mp q
    exact body_no_nl (h r hr)
  · rw [List.mem_singleton.mp q]
    decide +kernel

local macro_rules | `(tactic| walk_at "dl") => `(tactic| simp -implicitDefEqProofs only [DL.dNext, DL.dSeq, DL.dExpr, DL.dRet, DL.dIfS, DL.dSet, DL.dCont, DL.dRaise, DL.dFor, DL.dgName, DL.dgPair, DL.dTry, DL.dFn, DL.dMth, DL.dMk, DL.dFld, DL.dFldS, DL.dPut, DL.dVar, DL.slot, DL.dC, DL.dOp, DL.dUn, DL.oSub, DL.oMul, DL.oDiv, DL.oMod, DL.oPow, DL.oLt, DL.oLe, DL.oGt, DL.oGe, DL.oEq, DL.oNe, DL.oIn, DL.oNotIn, DL.dB, DL.dIsN, DL.dChain, DL.dAnd, DL.dOr, DL.dNot, DL.dAndV, DL.dOrV, DL.dNotV, DL.dIf, DL.dNil, DL.dCons, DL.few, DL.dLst, DL.dTup, DL.dLstM, DL.dFrz, DL.dPairs, DL.dDisp, DL.dDic0, DL.dSl, DL.dNoPart, DL.dCall, DL.dMet0L, DL.dMet, DL.dItems, DL.dRange1, DL.dEnum, DL.dLcM, DL.dwipe, DL.startD, DL.dNever, DL.el_some, DL.elL_lst, DL.elD_dic, DL.elI_ins, DL.res_non, DL.res_bl, DL.res_int, DL.res_str, DL.res_lst, DL.res_tupE, DL.res_dic, DL.res_scr, DL.res_ty, DL.oAdd_eq, DL.addR_int, DL.addR_str, DL.addR_lst, DL.addR_tup, DL.oAddM_eq, DL.addMR_lst, DL.oInt_eq, DL.intR_int, DL.oInt0_eq, DL.int0R_int, DL.oNeg_eq, DL.negR_int, DL.oEqN_eq, DL.eqR_some, DL.eqR_none, DL.eqS_non_non, DL.eqS_non_int, DL.eqS_non_bl, DL.eqS_non_str, DL.eqS_non_lst, DL.eqS_non_tup, DL.eqS_int_non, DL.eqS_int_int, DL.eqS_int_bl, DL.eqS_int_str, DL.eqS_int_lst, DL.eqS_int_tup, DL.eqS_bl_non, DL.eqS_bl_int, DL.eqS_bl_bl, DL.eqS_bl_str, DL.eqS_bl_lst, DL.eqS_bl_tup, DL.eqS_str_non, DL.eqS_str_int, DL.eqS_str_bl, DL.eqS_str_str, DL.eqS_str_lst, DL.eqS_str_tup, DL.eqS_lst_non, DL.eqS_lst_int, DL.eqS_lst_bl, DL.eqS_lst_str, DL.eqS_lst_lst, DL.eqS_lst_tup, DL.eqS_tup_non, DL.eqS_tup_int, DL.eqS_tup_bl, DL.eqS_tup_str, DL.eqS_tup_lst, DL.eqS_tup_tup, DL.eqS_obj_non, DL.eqS_non_obj, DL.eqS_obj_int, DL.eqS_int_obj, DL.eqS_obj_bl, DL.eqS_bl_obj, DL.eqS_obj_str, DL.eqS_str_obj, DL.eqS_obj_lst, DL.eqS_lst_obj, DL.eqS_obj_tup, DL.eqS_tup_obj, DL.eqS_obj_obj, DL.oInN_eq, DL.inR_lst, DL.inR_tup, DL.inR_str, DL.flatD_non, DL.flatD_bl, DL.flatD_int, DL.flatD_str, DL.asB_bl, DL.isN_non, DL.isN_bl, DL.isN_int, DL.isN_str, DL.isN_lst, DL.isN_tup, DL.isN_dic, DL.isN_scr, DL.isN_ty, DL.isN_obj, DL.frz_non, DL.frz_bl, DL.frz_int, DL.frz_str, DL.frz_lst, DL.frz_tup, DL.frz_dic, DL.frz_scr, DL.frz_ty, DL.oIx_eq, DL.ixR_lst, DL.ixR_tup, DL.ixR_scr, DL.ixR_str, DL.ixR_dic, DL.nth_0, DL.nth_1, DL.nth_2, DL.nth_3, DL.oSl_eq, DL.slR_lst, DL.slR_tup, DL.slR_str, DL.dPart_eq, DL.partR_int, DL.on1_cons, DL.on2_cons, DL.lenD_lst, DL.lenD_tup, DL.lenD_scr, DL.lenD_str, DL.intD_int, DL.intD_bl, DL.strD_int, DL.int2_int, DL.listM_lst, DL.listF_lst, DL.listM_tup, DL.listF_tup, DL.dictM_dic, DL.isiD_ty, DL.oAppend_obj, DL.oInsert_obj, DL.oPop_obj, DL.oPopAt_obj, DL.isLst_eq, DL.isLstR_lst, DL.isStr_str, DL.oSplit_str, DL.oJoin_str, DL.itemsOf_lst, DL.itemsOf_tup, DL.itemsOf_str, DL.rng1_int, DL.enumOf_lst, DL.two_tup, DL.insIs_obj, DL.getFld_obj, DL.setFld_obj, DL.putDic_obj, DL.isB_str_non, DL.isB_str_bl, DL.isB_str_int, DL.isB_str_str, DL.isB_str_lst, DL.isB_str_tup, DL.isB_str_dic, DL.isB_int_non, DL.isB_int_bl, DL.isB_int_int, DL.isB_int_str, DL.isB_int_lst, DL.isB_int_tup, DL.isB_int_dic, DL.isB_bool_non, DL.isB_bool_bl, DL.isB_bool_int, DL.isB_bool_str, DL.isB_bool_lst, DL.isB_bool_tup, DL.isB_bool_dic, DL.isB_list_non, DL.isB_list_bl, DL.isB_list_int, DL.isB_list_str, DL.isB_list_lst, DL.isB_list_tup, DL.isB_list_dic, DL.isB_tuple_non, DL.isB_tuple_bl, DL.isB_tuple_int, DL.isB_tuple_str, DL.isB_tuple_lst, DL.isB_tuple_tup, DL.isB_tuple_dic, Bool.cond_true, Bool.cond_false, L2.CDiv, Int.reduceLT, Int.reduceLE, true_and, and_true, cond_true, cond_false, List.map_cons, List.map_nil, List.set_cons_zero, List.set_cons_succ, List.set_nil, DL.cpow_109, DL.pow_109, DL.frz_set_lst, DL.frz_set_dic, Bool.not_true, Bool.not_false, DL.itemsOf_obj, DL.enumOf_obj, DL.all_still, okD_non, okD_bl, okD_int, okD_str, okD_lst, okD_tup, okD_dic, res_set_lst, Mem.set_same, Mem.set_set])
/-! ### _law_cell_at(_law_script, _law_k): 0 _law_script, 1 _law_k -/
def t_l_cell_at_1  : DSt :=
  (dRet (dC (.int 0)))
def t_l_cell_at  : DSt :=
  (dSeq (dIfS (dB (dOp oLt (dVar 1) (dCall (on1 lenD) (dCons (dVar 0) dNil)))) (dRet (dOp oIx (dVar 0) (dVar 1))) dNext)
  t_l_cell_at_1)
local macro_rules | `(tactic| walk_at "un") => `(tactic| simp only [t_l_cell_at_1, t_l_cell_at])
def m_l_cell_at : FDm := fun ds M Q _ => match ds with
  | [.scr ns, .int k] => 0 ≤ k ∧ Q (.int (cellAt ns k)) M
  | _ => False
theorem len_l_cell_at : ∀ ds M Q X, m_l_cell_at ds M Q X → ds.length = 2 := fun ds M Q X h => by
  unfold m_l_cell_at at h
  split at h <;> first | rfl | exact h.elim
theorem read_l_cell_at : ∀ ds M Q X, m_l_cell_at ds M Q X → t_l_cell_at (bodyE Q X) (startD 2 ds) M := by
  intro ds M Q X h
  unfold m_l_cell_at at h
  split at h
  · rename_i ns k
    obtain ⟨h0, h⟩ := h
    walk_at "un"
    walk_at "dl"
    unfold cellAt at h
    refine cond_dec (fun hx => ?_) fun hx => ?_
    · have hk : k.toNat < ns.length := by omega
      rw [nth_toNat _ h0, List.getElem?_eq_getElem hk]
      rw [List.getElem?_eq_getElem hk] at h
      exact retD_of h
    · have hk : ns.length ≤ k.toNat := by omega
      rw [List.getElem?_eq_none hk] at h
      exact retD_of h
  · exact h.elim
-- SIMP m_l_cell_at Int.reduceLE

local macro_rules | `(tactic| walk_at "dl") => `(tactic| simp -implicitDefEqProofs only [DL.dNext, DL.dSeq, DL.dExpr, DL.dRet, DL.dIfS, DL.dSet, DL.dCont, DL.dRaise, DL.dFor, DL.dgName, DL.dgPair, DL.dTry, DL.dFn, DL.dMth, DL.dMk, DL.dFld, DL.dFldS, DL.dPut, DL.dVar, DL.slot, DL.dC, DL.dOp, DL.dUn, DL.oSub, DL.oMul, DL.oDiv, DL.oMod, DL.oPow, DL.oLt, DL.oLe, DL.oGt, DL.oGe, DL.oEq, DL.oNe, DL.oIn, DL.oNotIn, DL.dB, DL.dIsN, DL.dChain, DL.dAnd, DL.dOr, DL.dNot, DL.dAndV, DL.dOrV, DL.dNotV, DL.dIf, DL.dNil, DL.dCons, DL.few, DL.dLst, DL.dTup, DL.dLstM, DL.dFrz, DL.dPairs, DL.dDisp, DL.dDic0, DL.dSl, DL.dNoPart, DL.dCall, DL.dMet0L, DL.dMet, DL.dItems, DL.dRange1, DL.dEnum, DL.dLcM, DL.dwipe, DL.startD, DL.dNever, DL.el_some, DL.elL_lst, DL.elD_dic, DL.elI_ins, DL.res_non, DL.res_bl, DL.res_int, DL.res_str, DL.res_lst, DL.res_tupE, DL.res_dic, DL.res_scr, DL.res_ty, DL.oAdd_eq, DL.addR_int, DL.addR_str, DL.addR_lst, DL.addR_tup, DL.oAddM_eq, DL.addMR_lst, DL.oInt_eq, DL.intR_int, DL.oInt0_eq, DL.int0R_int, DL.oNeg_eq, DL.negR_int, DL.oEqN_eq, DL.eqR_some, DL.eqR_none, DL.eqS_non_non, DL.eqS_non_int, DL.eqS_non_bl, DL.eqS_non_str, DL.eqS_non_lst, DL.eqS_non_tup, DL.eqS_int_non, DL.eqS_int_int, DL.eqS_int_bl, DL.eqS_int_str, DL.eqS_int_lst, DL.eqS_int_tup, DL.eqS_bl_non, DL.eqS_bl_int, DL.eqS_bl_bl, DL.eqS_bl_str, DL.eqS_bl_lst, DL.eqS_bl_tup, DL.eqS_str_non, DL.eqS_str_int, DL.eqS_str_bl, DL.eqS_str_str, DL.eqS_str_lst, DL.eqS_str_tup, DL.eqS_lst_non, DL.eqS_lst_int, DL.eqS_lst_bl, DL.eqS_lst_str, DL.eqS_lst_lst, DL.eqS_lst_tup, DL.eqS_tup_non, DL.eqS_tup_int, DL.eqS_tup_bl, DL.eqS_tup_str, DL.eqS_tup_lst, DL.eqS_tup_tup, DL.eqS_obj_non, DL.eqS_non_obj, DL.eqS_obj_int, DL.eqS_int_obj, DL.eqS_obj_bl, DL.eqS_bl_obj, DL.eqS_obj_str, DL.eqS_str_obj, DL.eqS_obj_lst, DL.eqS_lst_obj, DL.eqS_obj_tup, DL.eqS_tup_obj, DL.eqS_obj_obj, DL.oInN_eq, DL.inR_lst, DL.inR_tup, DL.inR_str, DL.flatD_non, DL.flatD_bl, DL.flatD_int, DL.flatD_str, DL.asB_bl, DL.isN_non, DL.isN_bl, DL.isN_int, DL.isN_str, DL.isN_lst, DL.isN_tup, DL.isN_dic, DL.isN_scr, DL.isN_ty, DL.isN_obj, DL.frz_non, DL.frz_bl, DL.frz_int, DL.frz_str, DL.frz_lst, DL.frz_tup, DL.frz_dic, DL.frz_scr, DL.frz_ty, DL.oIx_eq, DL.ixR_lst, DL.ixR_tup, DL.ixR_scr, DL.ixR_str, DL.ixR_dic, DL.nth_0, DL.nth_1, DL.nth_2, DL.nth_3, DL.oSl_eq, DL.slR_lst, DL.slR_tup, DL.slR_str, DL.dPart_eq, DL.partR_int, DL.on1_cons, DL.on2_cons, DL.lenD_lst, DL.lenD_tup, DL.lenD_scr, DL.lenD_str, DL.intD_int, DL.intD_bl, DL.strD_int, DL.int2_int, DL.listM_lst, DL.listF_lst, DL.listM_tup, DL.listF_tup, DL.dictM_dic, DL.isiD_ty, DL.oAppend_obj, DL.oInsert_obj, DL.oPop_obj, DL.oPopAt_obj, DL.isLst_eq, DL.isLstR_lst, DL.isStr_str, DL.oSplit_str, DL.oJoin_str, DL.itemsOf_lst, DL.itemsOf_tup, DL.itemsOf_str, DL.rng1_int, DL.enumOf_lst, DL.two_tup, DL.insIs_obj, DL.getFld_obj, DL.setFld_obj, DL.putDic_obj, DL.isB_str_non, DL.isB_str_bl, DL.isB_str_int, DL.isB_str_str, DL.isB_str_lst, DL.isB_str_tup, DL.isB_str_dic, DL.isB_int_non, DL.isB_int_bl, DL.isB_int_int, DL.isB_int_str, DL.isB_int_lst, DL.isB_int_tup, DL.isB_int_dic, DL.isB_bool_non, DL.isB_bool_bl, DL.isB_bool_int, DL.isB_bool_str, DL.isB_bool_lst, DL.isB_bool_tup, DL.isB_bool_dic, DL.isB_list_non, DL.isB_list_bl, DL.isB_list_int, DL.isB_list_str, DL.isB_list_lst, DL.isB_list_tup, DL.isB_list_dic, DL.isB_tuple_non, DL.isB_tuple_bl, DL.isB_tuple_int, DL.isB_tuple_str, DL.isB_tuple_lst, DL.isB_tuple_tup, DL.isB_tuple_dic, Bool.cond_true, Bool.cond_false, L2.CDiv, Int.reduceLT, Int.reduceLE, true_and, and_true, cond_true, cond_false, List.map_cons, List.map_nil, List.set_cons_zero, List.set_cons_succ, List.set_nil, DL.cpow_109, DL.pow_109, DL.frz_set_lst, DL.frz_set_dic, Bool.not_true, Bool.not_false, DL.itemsOf_obj, DL.enumOf_obj, DL.all_still, okD_non, okD_bl, okD_int, okD_str, okD_lst, okD_tup, okD_dic, res_set_lst, Mem.set_same, Mem.set_set, m_l_cell_at, Int.reduceLE])
/-! ### _law_people(_law_cell, _law_many): 0 _law_cell, 1 _law_many, 2 _law_some, 3 _law_head, 4 _law_rest, 5 _law_k, 6 _law_way, 7 _law_left, 8 _law_right -/
def t_l_people_L1_1  : DSt :=
  (dSet 4 (dOp oDiv (dVar 4) (dC (.int 36))))
def t_l_people_L1  : DSt :=
  (dSeq (dSet 3 (dOp oAdd (dVar 3) (dOp oIx (dVar 2) (dOp oMod (dVar 4) (dC (.int 36))))))
  t_l_people_L1_1)
def t_l_people_10  : DSt :=
  (dRet (dLc (dRange1 (dCons (dVar 1) dNil)) 5 dYes (dOp oAdd (dVar 3) (dCall (on1 strD) (dCons (dVar 5) dNil)))))
def t_l_people_9  : DSt :=
  (dSeq (dSet 3 (dSl (dVar 3) dNoPart (dPart (dOp oSub (dC (.int 10)) (dCall (on1 intD) (dCons (dOp oGt (dVar 1) (dC (.int 99))) dNil))))))
  t_l_people_10)
def t_l_people_8  : DSt :=
  (dSeq (dIfS (dAnd (dB (dOp oLt (dVar 6) (dC (.int 4)))) (dB (dOp oLt (dVar 1) (dC (.int 37))))) (dSeq (dSet 7 (dSl (dVar 3) dNoPart (dPart (dOp oMod (dOp oDiv (dVar 0) (dC (.int 5))) (dOp oAdd (dCall (on1 lenD) (dCons (dVar 3) dNil)) (dC (.int 1)))))))
  (dSeq (dSet 8 (dSl (dVar 3) (dPart (dCall (on1 lenD) (dCons (dVar 7) dNil))) dNoPart))
  (dRet (dLc (dRange1 (dCons (dVar 1) dNil)) 5 dYes (dOp oAdd (dOp oAdd (dVar 7) (dOp oIx (dVar 2) (dOp oMod (dOp oAdd (dOp oDiv (dVar 0) (dC (.int 7))) (dOp oMul (dC (.int 7)) (dVar 5))) (dC (.int 36))))) (dVar 8)))))) dNext)
  t_l_people_9)
def t_l_people_7  : DSt :=
  (dSeq (dSet 3 (dSl (dVar 3) dNoPart (dPart (dOp oMod (dOp oDiv (dVar 0) (dC (.int 6))) (dC (.int 12))))))
  t_l_people_8)
def t_l_people_6  : DSt :=
  (dSeq (dIfS (dAnd (dB (dOp oEq (dVar 6) (dC (.int 1)))) (dB (dOp oLt (dVar 1) (dC (.int 13))))) (dRet (dLc (dRange1 (dCons (dVar 1) dNil)) 5 dYes (dSl (dVar 3) (dPart (dOp oSub (dC (.int 11)) (dVar 5))) dNoPart))) dNext)
  t_l_people_7)
def t_l_people_5  : DSt :=
  (dSeq (dIfS (dAnd (dB (dOp oEq (dVar 6) (dC (.int 0)))) (dB (dOp oLt (dVar 1) (dC (.int 13))))) (dRet (dLc (dRange1 (dCons (dVar 1) dNil)) 5 dYes (dSl (dVar 3) dNoPart (dPart (dOp oAdd (dVar 5) (dC (.int 1))))))) dNext)
  t_l_people_6)
def t_l_people_4  : DSt :=
  (dSeq (dSet 6 (dOp oMod (dVar 0) (dC (.int 6))))
  t_l_people_5)
def t_l_people_3  : DSt :=
  (dSeq (dFor (dRange1 (dCons (dC (.int 12)) dNil)) (dgName 5) t_l_people_L1)
  t_l_people_4)
def t_l_people_2  : DSt :=
  (dSeq (dSet 4 (dOp oDiv (dVar 0) (dC (.int 36))))
  t_l_people_3)
def t_l_people_1  : DSt :=
  (dSeq (dSet 3 (dC (.str "")))
  t_l_people_2)
def t_l_people  : DSt :=
  (dSeq (dSet 2 (dC (.str "abcdefghijklmnopqrstuvwxyz0123456789")))
  t_l_people_1)
local macro_rules | `(tactic| walk_at "un") => `(tactic| simp only [t_l_people_10, t_l_people_9, t_l_people_8, t_l_people_7, t_l_people_6, t_l_people_5, t_l_people_4, t_l_people_3, t_l_people_2, t_l_people_1, t_l_people])
def m_l_people : FDm := fun ds M Q _ => match ds with
  | [.int _, .int many] => 0 ≤ many ∧ many ≤ 99 ∧ ∀ names : List Str, names.length = many.toNat → (∀ z ∈ names, nameOk z = true) → Q (.lst (names.map .str)) M
  | _ => False
theorem len_l_people : ∀ ds M Q X, m_l_people ds M Q X → ds.length = 2 := fun ds M Q X h => by
  unfold m_l_people at h
  split at h <;> first | rfl | exact h.elim
theorem people_fin {n : Nat} {many : Int} {M : Mem} {Q : QD} (hn : n = many.toNat) (h : ∀ names : List Str, names.length = many.toNat → (∀ z ∈ names, nameOk z = true) → Q (.lst (names.map .str)) M) (g : Nat → Str) (hg : ∀ k, k < n → nameOk (g k) = true) :
    retD Q (.lst ((List.range n).map fun k => .str (g k))) M := by
  have := h ((List.range n).map g) (by rw [List.length_map, List.length_range]; exact hn) (fun z hz => by
    obtain ⟨k, hk, rfl⟩ := List.mem_map.mp hz
    exact hg k (List.mem_range.mp hk))
  rw [List.map_map] at this
  exact retD_of this
theorem read_l_people : ∀ ds M Q X, m_l_people ds M Q X → t_l_people (bodyE Q X) (startD 9 ds) M := by
  intro ds M Q X h
  unfold m_l_people at h
  split at h
  rotate_left
  · exact h.elim
  rename_i c many
  obtain ⟨h0, h99, h⟩ := h
  unfold t_l_people t_l_people_1 t_l_people_2 t_l_people_3
  walk_at "dl"
  have hr : (rangeD 0 (Int.toNat 12)).length = 12 := by decide
  have sl : sizeLine = 16777216 := sizeLine_eq
  refine ⟨fun k δ M' => M' = M ∧ ∃ (z : Str) (r : Int) (o : Option D), good z ∧ z.length = k ∧ δ = [some (.int c), some (.int many), some (.str (Str.ofString "abcdefghijklmnopqrstuvwxyz0123456789")), some (.str z), some (.int r), o, none, none, none], ⟨rfl, _, _, _, (by intro x hx; cases hx), (by decide +kernel), rfl⟩, ?_, ?_⟩
  · rintro k x δ M' hx ⟨rfl, z, r, o, hg, hz, rfl⟩
    refine ⟨trivial, ?_⟩
    have hk := (List.getElem?_eq_some_iff.mp hx).1
    rw [hr] at hk
    unfold t_l_people_L1 t_l_people_L1_1
    walk_at "dl"
    rw [show (Str.ofString "abcdefghijklmnopqrstuvwxyz0123456789").cps.toList = signsL from rfl, nth_sign]
    refine ⟨by show z.length + 1 ≤ sizeLine; omega, z ++ ⟨#[signAt r]⟩, _, _, good_app hg (good_one _), by rw [len_append, hz]; rfl, rfl⟩
  · rintro δ M' ⟨rfl, z, r, o, hg, hz, rfl⟩
    rw [hr] at hz
    refine ⟨trivial, ?_⟩
    unfold t_l_people_4 t_l_people_5
    walk_at "dl"
    have m6 := Int.emod_nonneg c (show (6 : Int) ≠ 0 by decide)
    have e6 : ∀ {A B : Prop} (w : Int), (c % 6 = w → many < 13 → A) → B → cond (decide (c % 6 = w)) (cond (decide (many < 13)) A B) B := fun {A B} w hA hB =>
      cond_dec (fun h1 => cond_dec (fun h2 => hA h1 h2) fun _ => hB) fun _ => hB
    refine e6 0 (fun _ h13 => ⟨by omega, by omega, lc_rangeD (fun k => .str (cutS z none (some ((k : Int) + 1)))) (fun k hk M1 hs Qd q => ?_) ?_⟩) ?_
    · walk_at "dl"
      exact q
    · refine people_fin rfl h _ fun k hk => ?_
      have := cut_hi_len z (k := (k : Int) + 1) (by omega)
      exact nameOk_of (by omega) (by omega) (good_cut hg _ _)
    unfold t_l_people_6
    walk_at "dl"
    refine e6 1 (fun _ h13 => ⟨by omega, by omega, lc_rangeD (fun k => .str (cutS z (some (11 - (k : Int))) none)) (fun k hk M1 hs Qd q => ?_) ?_⟩) ?_
    · walk_at "dl"
      exact q
    · refine people_fin rfl h _ fun k hk => ?_
      have := cut_lo_len z (k := 11 - (k : Int)) (by omega)
      exact nameOk_of (by omega) (by omega) (good_cut hg _ _)
    unfold t_l_people_7 t_l_people_8
    walk_at "dl"
    have p1 := Int.emod_nonneg (c / 6) (show (12 : Int) ≠ 0 by decide)
    have p2 := Int.emod_lt_of_pos (c / 6) (show (0 : Int) < 12 by decide)
    have hl1 := cut_hi_len z p1
    have hg1 := good_cut hg none (some (c / 6 % 12))
    generalize cutS z none (some (c / 6 % 12)) = y at hl1 hg1 ⊢
    have rest : t_l_people_9 (bodyE Q X) [some (.int c), some (.int many), some (.str (Str.ofString "abcdefghijklmnopqrstuvwxyz0123456789")), some (.str y), some (.int r), o, some (.int (c % 6)), none, none] M' := by
      unfold t_l_people_9 t_l_people_10
      walk_at "dl"
      have h9 : decide (99 < many) = false := decide_eq_false (by omega)
      rw [h9]
      have hl2 := cut_hi_len y (k := 10 - cond false 1 0) (by decide)
      have hg2 := good_cut hg1 none (some (10 - cond false 1 0))
      have e10 : (10 - cond false (1 : Int) 0) = 10 := by decide
      rw [e10] at hl2 hg2 ⊢
      generalize cutS y none (some 10) = x at hl2 hg2 ⊢
      have t10 : Int.toNat 10 = 10 := rfl
      rw [t10] at hl2
      refine ⟨by omega, by omega, lc_rangeD (fun k => .str (x ++ Str.ofString (toString (k : Int)))) (fun k hk M1 hs Qd q => ?_) ?_⟩
      · have hk2 := num_good (n := k) (by omega)
        walk_at "dl"
        refine ⟨by omega, by omega, ?_, q⟩
        show x.length + (Str.ofString (toString (k : Int))).length ≤ sizeLine
        omega
      · refine people_fin rfl h (fun k => x ++ Str.ofString (toString (k : Int))) fun k hk => ?_
        have hk2 := num_good (n := k) (by omega)
        refine nameOk_of ?_ ?_ (good_app hg2 hk2.1)
        · rw [len_append]; omega
        · rw [len_append]; omega
    refine cond_dec (fun h4 => cond_dec (fun h37 => ?_) fun _ => rest) fun _ => rest
    have q0 : (0 : Int) < (y.length : Int) + 1 := by omega
    have q1 := Int.emod_nonneg (c / 5) (show (y.length : Int) + 1 ≠ 0 by omega)
    have q2 := Int.emod_lt_of_pos (c / 5) q0
    have hl2 := cut_hi_len y q1
    have hg2 := good_cut hg1 none (some (c / 5 % ((y.length : Int) + 1)))
    generalize cutS y none (some (c / 5 % ((y.length : Int) + 1))) = u at hl2 hg2 ⊢
    have hl3 := cut_lo_len y (k := (u.length : Int)) (by omega)
    have hg3 := good_cut hg1 (some (u.length : Int)) none
    generalize cutS y (some (u.length : Int)) none = v at hl3 hg3 ⊢
    rw [Int.toNat_natCast] at hl3
    refine ⟨q0, by omega, by omega, lc_rangeD (fun k => .str (u ++ ⟨#[signAt (c / 7 + 7 * (k : Int))]⟩ ++ v)) (fun k hk M1 hs Qd q => ?_) ?_⟩
    · walk_at "dl"
      refine ⟨.inl ⟨by decide, by decide⟩, ?_⟩
      rw [show (Str.ofString "abcdefghijklmnopqrstuvwxyz0123456789").cps.toList = signsL from rfl, nth_sign]
      refine ⟨by show u.length + 1 ≤ sizeLine; omega, ?_, q⟩
      rw [len_append]
      show u.length + 1 + v.length ≤ sizeLine
      omega
    · refine people_fin rfl h (fun k => u ++ ⟨#[signAt (c / 7 + 7 * (k : Int))]⟩ ++ v) fun k hk => ?_
      have e1 : (u ++ (⟨#[signAt (c / 7 + 7 * (k : Int))]⟩ : Str) ++ v).length = u.length + 1 + v.length := by
        rw [len_append, len_append]; rfl
      refine nameOk_of ?_ ?_ (good_app (good_app hg2 (good_one _)) hg3)
      · omega
      · omega
-- SIMP m_l_people

local macro_rules | `(tactic| walk_at "dl") => `(tactic| simp -implicitDefEqProofs only [DL.dNext, DL.dSeq, DL.dExpr, DL.dRet, DL.dIfS, DL.dSet, DL.dCont, DL.dRaise, DL.dFor, DL.dgName, DL.dgPair, DL.dTry, DL.dFn, DL.dMth, DL.dMk, DL.dFld, DL.dFldS, DL.dPut, DL.dVar, DL.slot, DL.dC, DL.dOp, DL.dUn, DL.oSub, DL.oMul, DL.oDiv, DL.oMod, DL.oPow, DL.oLt, DL.oLe, DL.oGt, DL.oGe, DL.oEq, DL.oNe, DL.oIn, DL.oNotIn, DL.dB, DL.dIsN, DL.dChain, DL.dAnd, DL.dOr, DL.dNot, DL.dAndV, DL.dOrV, DL.dNotV, DL.dIf, DL.dNil, DL.dCons, DL.few, DL.dLst, DL.dTup, DL.dLstM, DL.dFrz, DL.dPairs, DL.dDisp, DL.dDic0, DL.dSl, DL.dNoPart, DL.dCall, DL.dMet0L, DL.dMet, DL.dItems, DL.dRange1, DL.dEnum, DL.dLcM, DL.dwipe, DL.startD, DL.dNever, DL.el_some, DL.elL_lst, DL.elD_dic, DL.elI_ins, DL.res_non, DL.res_bl, DL.res_int, DL.res_str, DL.res_lst, DL.res_tupE, DL.res_dic, DL.res_scr, DL.res_ty, DL.oAdd_eq, DL.addR_int, DL.addR_str, DL.addR_lst, DL.addR_tup, DL.oAddM_eq, DL.addMR_lst, DL.oInt_eq, DL.intR_int, DL.oInt0_eq, DL.int0R_int, DL.oNeg_eq, DL.negR_int, DL.oEqN_eq, DL.eqR_some, DL.eqR_none, DL.eqS_non_non, DL.eqS_non_int, DL.eqS_non_bl, DL.eqS_non_str, DL.eqS_non_lst, DL.eqS_non_tup, DL.eqS_int_non, DL.eqS_int_int, DL.eqS_int_bl, DL.eqS_int_str, DL.eqS_int_lst, DL.eqS_int_tup, DL.eqS_bl_non, DL.eqS_bl_int, DL.eqS_bl_bl, DL.eqS_bl_str, DL.eqS_bl_lst, DL.eqS_bl_tup, DL.eqS_str_non, DL.eqS_str_int, DL.eqS_str_bl, DL.eqS_str_str, DL.eqS_str_lst, DL.eqS_str_tup, DL.eqS_lst_non, DL.eqS_lst_int, DL.eqS_lst_bl, DL.eqS_lst_str, DL.eqS_lst_lst, DL.eqS_lst_tup, DL.eqS_tup_non, DL.eqS_tup_int, DL.eqS_tup_bl, DL.eqS_tup_str, DL.eqS_tup_lst, DL.eqS_tup_tup, DL.eqS_obj_non, DL.eqS_non_obj, DL.eqS_obj_int, DL.eqS_int_obj, DL.eqS_obj_bl, DL.eqS_bl_obj, DL.eqS_obj_str, DL.eqS_str_obj, DL.eqS_obj_lst, DL.eqS_lst_obj, DL.eqS_obj_tup, DL.eqS_tup_obj, DL.eqS_obj_obj, DL.oInN_eq, DL.inR_lst, DL.inR_tup, DL.inR_str, DL.flatD_non, DL.flatD_bl, DL.flatD_int, DL.flatD_str, DL.asB_bl, DL.isN_non, DL.isN_bl, DL.isN_int, DL.isN_str, DL.isN_lst, DL.isN_tup, DL.isN_dic, DL.isN_scr, DL.isN_ty, DL.isN_obj, DL.frz_non, DL.frz_bl, DL.frz_int, DL.frz_str, DL.frz_lst, DL.frz_tup, DL.frz_dic, DL.frz_scr, DL.frz_ty, DL.oIx_eq, DL.ixR_lst, DL.ixR_tup, DL.ixR_scr, DL.ixR_str, DL.ixR_dic, DL.nth_0, DL.nth_1, DL.nth_2, DL.nth_3, DL.oSl_eq, DL.slR_lst, DL.slR_tup, DL.slR_str, DL.dPart_eq, DL.partR_int, DL.on1_cons, DL.on2_cons, DL.lenD_lst, DL.lenD_tup, DL.lenD_scr, DL.lenD_str, DL.intD_int, DL.intD_bl, DL.strD_int, DL.int2_int, DL.listM_lst, DL.listF_lst, DL.listM_tup, DL.listF_tup, DL.dictM_dic, DL.isiD_ty, DL.oAppend_obj, DL.oInsert_obj, DL.oPop_obj, DL.oPopAt_obj, DL.isLst_eq, DL.isLstR_lst, DL.isStr_str, DL.oSplit_str, DL.oJoin_str, DL.itemsOf_lst, DL.itemsOf_tup, DL.itemsOf_str, DL.rng1_int, DL.enumOf_lst, DL.two_tup, DL.insIs_obj, DL.getFld_obj, DL.setFld_obj, DL.putDic_obj, DL.isB_str_non, DL.isB_str_bl, DL.isB_str_int, DL.isB_str_str, DL.isB_str_lst, DL.isB_str_tup, DL.isB_str_dic, DL.isB_int_non, DL.isB_int_bl, DL.isB_int_int, DL.isB_int_str, DL.isB_int_lst, DL.isB_int_tup, DL.isB_int_dic, DL.isB_bool_non, DL.isB_bool_bl, DL.isB_bool_int, DL.isB_bool_str, DL.isB_bool_lst, DL.isB_bool_tup, DL.isB_bool_dic, DL.isB_list_non, DL.isB_list_bl, DL.isB_list_int, DL.isB_list_str, DL.isB_list_lst, DL.isB_list_tup, DL.isB_list_dic, DL.isB_tuple_non, DL.isB_tuple_bl, DL.isB_tuple_int, DL.isB_tuple_str, DL.isB_tuple_lst, DL.isB_tuple_tup, DL.isB_tuple_dic, Bool.cond_true, Bool.cond_false, L2.CDiv, Int.reduceLT, Int.reduceLE, true_and, and_true, cond_true, cond_false, List.map_cons, List.map_nil, List.set_cons_zero, List.set_cons_succ, List.set_nil, DL.cpow_109, DL.pow_109, DL.frz_set_lst, DL.frz_set_dic, Bool.not_true, Bool.not_false, DL.itemsOf_obj, DL.enumOf_obj, DL.all_still, okD_non, okD_bl, okD_int, okD_str, okD_lst, okD_tup, okD_dic, res_set_lst, Mem.set_same, Mem.set_set, m_l_cell_at, Int.reduceLE, m_l_people])
/-! ### _law_wish_by(_law_cell): 0 _law_cell -/
def t_l_wish_by_1  : DSt :=
  (dRet (dC (.str "read")))
def t_l_wish_by  : DSt :=
  (dSeq (dIfS (dB (dOp oEq (dOp oMod (dVar 0) (dC (.int 3))) (dC (.int 0)))) (dRet (dC (.str "write"))) dNext)
  t_l_wish_by_1)
local macro_rules | `(tactic| walk_at "un") => `(tactic| simp only [t_l_wish_by_1, t_l_wish_by])
def m_l_wish_by : FDm := fun ds M Q _ => match ds with
  | [.int c] => Q (.str (wishS (!decide (c % 3 = 0)))) M
  | _ => False
theorem len_l_wish_by : ∀ ds M Q X, m_l_wish_by ds M Q X → ds.length = 1 := fun ds M Q X h => by
  unfold m_l_wish_by at h
  split at h <;> first | rfl | exact h.elim
theorem read_l_wish_by : ∀ ds M Q X, m_l_wish_by ds M Q X → t_l_wish_by (bodyE Q X) (startD 1 ds) M := by
  intro ds M Q X h
  unfold m_l_wish_by at h
  split at h
  rotate_left
  · exact h.elim
  rename_i c
  walk_at "un"
  walk_at "dl"
  refine cond_dec (fun e => ?_) fun e => ?_
  · rw [decide_eq_true e, Bool.not_true, wishS_f] at h
    exact retD_of h
  · rw [decide_eq_false e, Bool.not_false, wishS_t] at h
    exact retD_of h
-- SIMP m_l_wish_by

local macro_rules | `(tactic| walk_at "dl") => `(tactic| simp -implicitDefEqProofs only [DL.dNext, DL.dSeq, DL.dExpr, DL.dRet, DL.dIfS, DL.dSet, DL.dCont, DL.dRaise, DL.dFor, DL.dgName, DL.dgPair, DL.dTry, DL.dFn, DL.dMth, DL.dMk, DL.dFld, DL.dFldS, DL.dPut, DL.dVar, DL.slot, DL.dC, DL.dOp, DL.dUn, DL.oSub, DL.oMul, DL.oDiv, DL.oMod, DL.oPow, DL.oLt, DL.oLe, DL.oGt, DL.oGe, DL.oEq, DL.oNe, DL.oIn, DL.oNotIn, DL.dB, DL.dIsN, DL.dChain, DL.dAnd, DL.dOr, DL.dNot, DL.dAndV, DL.dOrV, DL.dNotV, DL.dIf, DL.dNil, DL.dCons, DL.few, DL.dLst, DL.dTup, DL.dLstM, DL.dFrz, DL.dPairs, DL.dDisp, DL.dDic0, DL.dSl, DL.dNoPart, DL.dCall, DL.dMet0L, DL.dMet, DL.dItems, DL.dRange1, DL.dEnum, DL.dLcM, DL.dwipe, DL.startD, DL.dNever, DL.el_some, DL.elL_lst, DL.elD_dic, DL.elI_ins, DL.res_non, DL.res_bl, DL.res_int, DL.res_str, DL.res_lst, DL.res_tupE, DL.res_dic, DL.res_scr, DL.res_ty, DL.oAdd_eq, DL.addR_int, DL.addR_str, DL.addR_lst, DL.addR_tup, DL.oAddM_eq, DL.addMR_lst, DL.oInt_eq, DL.intR_int, DL.oInt0_eq, DL.int0R_int, DL.oNeg_eq, DL.negR_int, DL.oEqN_eq, DL.eqR_some, DL.eqR_none, DL.eqS_non_non, DL.eqS_non_int, DL.eqS_non_bl, DL.eqS_non_str, DL.eqS_non_lst, DL.eqS_non_tup, DL.eqS_int_non, DL.eqS_int_int, DL.eqS_int_bl, DL.eqS_int_str, DL.eqS_int_lst, DL.eqS_int_tup, DL.eqS_bl_non, DL.eqS_bl_int, DL.eqS_bl_bl, DL.eqS_bl_str, DL.eqS_bl_lst, DL.eqS_bl_tup, DL.eqS_str_non, DL.eqS_str_int, DL.eqS_str_bl, DL.eqS_str_str, DL.eqS_str_lst, DL.eqS_str_tup, DL.eqS_lst_non, DL.eqS_lst_int, DL.eqS_lst_bl, DL.eqS_lst_str, DL.eqS_lst_lst, DL.eqS_lst_tup, DL.eqS_tup_non, DL.eqS_tup_int, DL.eqS_tup_bl, DL.eqS_tup_str, DL.eqS_tup_lst, DL.eqS_tup_tup, DL.eqS_obj_non, DL.eqS_non_obj, DL.eqS_obj_int, DL.eqS_int_obj, DL.eqS_obj_bl, DL.eqS_bl_obj, DL.eqS_obj_str, DL.eqS_str_obj, DL.eqS_obj_lst, DL.eqS_lst_obj, DL.eqS_obj_tup, DL.eqS_tup_obj, DL.eqS_obj_obj, DL.oInN_eq, DL.inR_lst, DL.inR_tup, DL.inR_str, DL.flatD_non, DL.flatD_bl, DL.flatD_int, DL.flatD_str, DL.asB_bl, DL.isN_non, DL.isN_bl, DL.isN_int, DL.isN_str, DL.isN_lst, DL.isN_tup, DL.isN_dic, DL.isN_scr, DL.isN_ty, DL.isN_obj, DL.frz_non, DL.frz_bl, DL.frz_int, DL.frz_str, DL.frz_lst, DL.frz_tup, DL.frz_dic, DL.frz_scr, DL.frz_ty, DL.oIx_eq, DL.ixR_lst, DL.ixR_tup, DL.ixR_scr, DL.ixR_str, DL.ixR_dic, DL.nth_0, DL.nth_1, DL.nth_2, DL.nth_3, DL.oSl_eq, DL.slR_lst, DL.slR_tup, DL.slR_str, DL.dPart_eq, DL.partR_int, DL.on1_cons, DL.on2_cons, DL.lenD_lst, DL.lenD_tup, DL.lenD_scr, DL.lenD_str, DL.intD_int, DL.intD_bl, DL.strD_int, DL.int2_int, DL.listM_lst, DL.listF_lst, DL.listM_tup, DL.listF_tup, DL.dictM_dic, DL.isiD_ty, DL.oAppend_obj, DL.oInsert_obj, DL.oPop_obj, DL.oPopAt_obj, DL.isLst_eq, DL.isLstR_lst, DL.isStr_str, DL.oSplit_str, DL.oJoin_str, DL.itemsOf_lst, DL.itemsOf_tup, DL.itemsOf_str, DL.rng1_int, DL.enumOf_lst, DL.two_tup, DL.insIs_obj, DL.getFld_obj, DL.setFld_obj, DL.putDic_obj, DL.isB_str_non, DL.isB_str_bl, DL.isB_str_int, DL.isB_str_str, DL.isB_str_lst, DL.isB_str_tup, DL.isB_str_dic, DL.isB_int_non, DL.isB_int_bl, DL.isB_int_int, DL.isB_int_str, DL.isB_int_lst, DL.isB_int_tup, DL.isB_int_dic, DL.isB_bool_non, DL.isB_bool_bl, DL.isB_bool_int, DL.isB_bool_str, DL.isB_bool_lst, DL.isB_bool_tup, DL.isB_bool_dic, DL.isB_list_non, DL.isB_list_bl, DL.isB_list_int, DL.isB_list_str, DL.isB_list_lst, DL.isB_list_tup, DL.isB_list_dic, DL.isB_tuple_non, DL.isB_tuple_bl, DL.isB_tuple_int, DL.isB_tuple_str, DL.isB_tuple_lst, DL.isB_tuple_tup, DL.isB_tuple_dic, Bool.cond_true, Bool.cond_false, L2.CDiv, Int.reduceLT, Int.reduceLE, true_and, and_true, cond_true, cond_false, List.map_cons, List.map_nil, List.set_cons_zero, List.set_cons_succ, List.set_nil, DL.cpow_109, DL.pow_109, DL.frz_set_lst, DL.frz_set_dic, Bool.not_true, Bool.not_false, DL.itemsOf_obj, DL.enumOf_obj, DL.all_still, okD_non, okD_bl, okD_int, okD_str, okD_lst, okD_tup, okD_dic, res_set_lst, Mem.set_same, Mem.set_set, m_l_cell_at, Int.reduceLE, m_l_people, m_l_wish_by])
/-! ### _law_rows_by(_law_script): 0 _law_script, 1 _law_many, 2 _law_people_here, 3 _law_rows, 4 _law_k, 5 _law_cell, 6 _law_who, 7 _law_word -/
def t_l_rows_by_L1_3  : DSt :=
  (dIfS (dB (dOp oLt (dOp oMod (dVar 5) (dC (.int 5))) (dC (.int 2)))) (dExpr (dMet isLst oAppend (dVar 3) (dCons (dTup (dCons (dVar 7) (dCons (dVar 6) (dCons (dFn m_l_wish_by (dCons (dOp oDiv (dVar 5) (dC (.int 60))) dNil)) dNil)))) dNil))) (dExpr (dMet isLst oAppend (dVar 3) (dCons (dTup (dCons (dVar 7) (dCons (dVar 6) dNil))) dNil))))
def t_l_rows_by_L1_2  : DSt :=
  (dSeq (dSet 7 (dOp oIx (dLst (dCons (dC (.str "came")) (dCons (dC (.str "begins")) (dCons (dC (.str "left")) (dCons (dC (.str "asked")) (dCons (dC (.str "eased")) dNil)))))) (dOp oMod (dVar 5) (dC (.int 5)))))
  t_l_rows_by_L1_3)
def t_l_rows_by_L1_1  : DSt :=
  (dSeq (dSet 6 (dOp oIx (dVar 2) (dOp oMod (dOp oDiv (dVar 5) (dC (.int 5))) (dC (.int 12)))))
  t_l_rows_by_L1_2)
def t_l_rows_by_L1  : DSt :=
  (dSeq (dSet 5 (dOp oAdd (dFn m_l_cell_at (dCons (dVar 0) (dCons (dOp oAdd (dC (.int 2)) (dOp oMod (dVar 4) (dC (.int 30)))) dNil))) (dOp oDiv (dVar 4) (dC (.int 30)))))
  t_l_rows_by_L1_1)
def t_l_rows_by_6  : DSt :=
  (dRet (dFrz (dVar 3)))
def t_l_rows_by_5  : DSt :=
  (dSeq (dFor (dRange1 (dCons (dVar 1) dNil)) (dgName 4) t_l_rows_by_L1)
  t_l_rows_by_6)
def t_l_rows_by_4  : DSt :=
  (dSeq (dSet 3 (dLstM dNil))
  t_l_rows_by_5)
def t_l_rows_by_3  : DSt :=
  (dSeq (dSet 2 (dFn m_l_people (dCons (dFn m_l_cell_at (dCons (dVar 0) (dCons (dC (.int 1)) dNil))) (dCons (dC (.int 12)) dNil))))
  t_l_rows_by_4)
def t_l_rows_by_2  : DSt :=
  (dSeq (dIfS (dB (dOp oEq (dOp oMod (dOp oDiv (dFn m_l_cell_at (dCons (dVar 0) (dCons (dC (.int 0)) dNil))) (dC (.int 9))) (dC (.int 32))) (dC (.int 5)))) (dSet 1 (dC (.int 400))) dNext)
  t_l_rows_by_3)
def t_l_rows_by_1  : DSt :=
  (dSeq (dIfS (dB (dOp oEq (dOp oMod (dOp oDiv (dFn m_l_cell_at (dCons (dVar 0) (dCons (dC (.int 0)) dNil))) (dC (.int 9))) (dC (.int 4))) (dC (.int 1)))) (dSet 1 (dOp oMod (dOp oDiv (dFn m_l_cell_at (dCons (dVar 0) (dCons (dC (.int 0)) dNil))) (dC (.int 36))) (dC (.int 91)))) dNext)
  t_l_rows_by_2)
def t_l_rows_by  : DSt :=
  (dSeq (dSet 1 (dOp oMod (dFn m_l_cell_at (dCons (dVar 0) (dCons (dC (.int 0)) dNil))) (dC (.int 9))))
  t_l_rows_by_1)
local macro_rules | `(tactic| walk_at "un") => `(tactic| simp only [t_l_rows_by_6, t_l_rows_by_5, t_l_rows_by_4, t_l_rows_by_3, t_l_rows_by_2, t_l_rows_by_1, t_l_rows_by])
def m_l_rows_by : FDm := fun ds M Q _ => match ds with
  | [.scr _] => ∀ l : List Rw, (∀ r ∈ l, nameOk r.name = true) → l.length ≤ 400 → Q (.lst (eRows l)) M
  | _ => False
theorem len_l_rows_by : ∀ ds M Q X, m_l_rows_by ds M Q X → ds.length = 1 := fun ds M Q X h => by
  unfold m_l_rows_by at h
  split at h <;> first | rfl | exact h.elim
theorem rows_by_2 {E : DEnds} {ns : List Int} {c k : Int} {many : Int} {names : List D} {a : Addr} {z : Str} {ds : List D} {M : Mem} {o : Option D} (hd : ds.length < sizeLine)
    (h : ∀ (r : Rw) (w : D), r.name = z → E.nx [some (D.scr ns), some (D.int many), some (D.lst names), some (.obj a), some (.int k), some (D.int c), some (.str z), some w] (M.set a (.lst (ds ++ [eR r])))) :
    t_l_rows_by_L1_2 E [some (D.scr ns), some (D.int many), some (D.lst names), some (.obj a), some (.int k), some (D.int c), some (.str z), o] (M.set a (.lst ds)) := by
  unfold t_l_rows_by_L1_2 t_l_rows_by_L1_3
  have h0 := Int.emod_nonneg c (show (5 : Int) ≠ 0 by decide)
  have h5 := Int.emod_lt_of_pos c (show (0 : Int) < 5 by decide)
  have hc : c % 5 = 0 ∨ c % 5 = 1 ∨ c % 5 = 2 ∨ c % 5 = 3 ∨ c % 5 = 4 := by omega
  walk_at "dl"
  rcases hc with e | e | e | e | e
  · rw [e]
    rw [show nth [D.str (Str.ofString "came"), D.str (Str.ofString "begins"), D.str (Str.ofString "left"), D.str (Str.ofString "asked"), D.str (Str.ofString "eased")] 0 = some (D.str (Str.ofString "came")) from rfl, el_some, decide_eq_true (by decide)]
    walk_at "dl"
    exact ⟨hd, h (.came z _) _ rfl⟩
  · rw [e]
    rw [show nth [D.str (Str.ofString "came"), D.str (Str.ofString "begins"), D.str (Str.ofString "left"), D.str (Str.ofString "asked"), D.str (Str.ofString "eased")] 1 = some (D.str (Str.ofString "begins")) from rfl, el_some, decide_eq_true (by decide)]
    walk_at "dl"
    exact ⟨hd, h (.begins z _) _ rfl⟩
  · rw [e]
    rw [show nth [D.str (Str.ofString "came"), D.str (Str.ofString "begins"), D.str (Str.ofString "left"), D.str (Str.ofString "asked"), D.str (Str.ofString "eased")] 2 = some (D.str (Str.ofString "left")) from rfl, el_some, decide_eq_false (by decide)]
    walk_at "dl"
    exact ⟨hd, h (.left z) _ rfl⟩
  · rw [e]
    rw [show nth [D.str (Str.ofString "came"), D.str (Str.ofString "begins"), D.str (Str.ofString "left"), D.str (Str.ofString "asked"), D.str (Str.ofString "eased")] 3 = some (D.str (Str.ofString "asked")) from rfl, el_some, decide_eq_false (by decide)]
    walk_at "dl"
    exact ⟨hd, h (.asked z) _ rfl⟩
  · rw [e]
    rw [show nth [D.str (Str.ofString "came"), D.str (Str.ofString "begins"), D.str (Str.ofString "left"), D.str (Str.ofString "asked"), D.str (Str.ofString "eased")] 4 = some (D.str (Str.ofString "eased")) from rfl, el_some, decide_eq_false (by decide)]
    walk_at "dl"
    exact ⟨hd, h (.eased z) _ rfl⟩
theorem read_l_rows_by : ∀ ds M Q X, m_l_rows_by ds M Q X → t_l_rows_by (bodyE Q X) (startD 8 ds) M := by
  intro ds M Q X h
  unfold m_l_rows_by at h
  split at h
  rotate_left
  · exact h.elim
  rename_i ns
  have rest : ∀ many : Int, 0 ≤ many → many ≤ 400 → t_l_rows_by_3 (bodyE Q X) [some (.scr ns), some (.int many), none, none, none, none, none, none] M := by
    intro many hm0 hm
    unfold t_l_rows_by_3 t_l_rows_by_4 t_l_rows_by_5
    walk_at "dl"
    intro names hn hz
    intro a ha
    refine ⟨by omega, by omega, ?_⟩
    refine ⟨fun k δ M' => (∃ l : List Rw, l.length = k ∧ (∀ r ∈ l, nameOk r.name = true) ∧ M' = M.set a (.lst (eRows l))) ∧ ∃ o1 o2 o3 o4 : Option D, δ = [some (.scr ns), some (.int many), some (.lst (names.map .str)), some (.obj a), o1, o2, o3, o4], ⟨⟨[], rfl, (by intro r hr; cases hr), rfl⟩, _, _, _, _, rfl⟩, ?_, ?_⟩
    · rintro k x δ M' hx ⟨⟨l, hl, hr, rfl⟩, o1, o2, o3, o4, rfl⟩
      refine ⟨trivial, ?_⟩
      obtain ⟨hk, rfl⟩ := rangeD_get hx
      unfold t_l_rows_by_L1 t_l_rows_by_L1_1
      walk_at "dl"
      have hk30 : (0 : Int) ≤ 2 + (k : Int) % 30 := by omega
      refine ⟨hk30, ?_⟩
      generalize cellAt ns (2 + (k : Int) % 30) + (k : Int) / 30 = c
      have e12 : (Int.toNat 12) = 12 := rfl
      rw [e12] at hn
      obtain ⟨d, hd, e⟩ := nth_mod (names.map D.str) (c / 5) 12 (by rw [List.length_map]; exact hn) (by decide)
      have e : nth (names.map D.str) (c / 5 % 12) = some d := e
      rw [e, el_some]
      obtain ⟨z, hzm, rfl⟩ := List.mem_map.mp hd
      refine rows_by_2 (by rw [len_eRows, sizeLine_eq]; omega) fun r w e => ?_
      refine ⟨⟨l ++ [r], by rw [List.length_append, hl]; rfl, fun r' hr' => ?_, ?_⟩, _, _, _, _, rfl⟩
      · rcases List.mem_append.mp hr' with q | q
        · exact hr _ q
        · rw [List.mem_singleton.mp q, e]
          exact hz _ hzm
      · rw [eRows_app]
        rfl
    · rintro δ M' ⟨⟨l, hl, hr, rfl⟩, o1, o2, o3, o4, rfl⟩
      refine ⟨trivial, ?_⟩
      unfold t_l_rows_by_6
      walk_at "dl"
      rw [rangeD_len] at hl
      rw [Mem.del_set ha]
      exact retD_of (h l hr (by omega))
  unfold t_l_rows_by t_l_rows_by_1 t_l_rows_by_2
  walk_at "dl"
  have a1 := Int.emod_nonneg (cellAt ns 0) (show (9 : Int) ≠ 0 by decide)
  have a2 := Int.emod_lt_of_pos (cellAt ns 0) (show (0 : Int) < 9 by decide)
  have b1 := Int.emod_nonneg (cellAt ns 0 / 36) (show (91 : Int) ≠ 0 by decide)
  have b2 := Int.emod_lt_of_pos (cellAt ns 0 / 36) (show (0 : Int) < 91 by decide)
  refine cond_dec (fun _ => cond_dec (fun _ => ?_) fun _ => ?_) fun _ => cond_dec (fun _ => ?_) fun _ => ?_
  all_goals exact rest _ (by omega) (by omega)
-- SIMP m_l_rows_by

local macro_rules | `(tactic| walk_at "dl") => `(tactic| simp -implicitDefEqProofs only [DL.dNext, DL.dSeq, DL.dExpr, DL.dRet, DL.dIfS, DL.dSet, DL.dCont, DL.dRaise, DL.dFor, DL.dgName, DL.dgPair, DL.dTry, DL.dFn, DL.dMth, DL.dMk, DL.dFld, DL.dFldS, DL.dPut, DL.dVar, DL.slot, DL.dC, DL.dOp, DL.dUn, DL.oSub, DL.oMul, DL.oDiv, DL.oMod, DL.oPow, DL.oLt, DL.oLe, DL.oGt, DL.oGe, DL.oEq, DL.oNe, DL.oIn, DL.oNotIn, DL.dB, DL.dIsN, DL.dChain, DL.dAnd, DL.dOr, DL.dNot, DL.dAndV, DL.dOrV, DL.dNotV, DL.dIf, DL.dNil, DL.dCons, DL.few, DL.dLst, DL.dTup, DL.dLstM, DL.dFrz, DL.dPairs, DL.dDisp, DL.dDic0, DL.dSl, DL.dNoPart, DL.dCall, DL.dMet0L, DL.dMet, DL.dItems, DL.dRange1, DL.dEnum, DL.dLcM, DL.dwipe, DL.startD, DL.dNever, DL.el_some, DL.elL_lst, DL.elD_dic, DL.elI_ins, DL.res_non, DL.res_bl, DL.res_int, DL.res_str, DL.res_lst, DL.res_tupE, DL.res_dic, DL.res_scr, DL.res_ty, DL.oAdd_eq, DL.addR_int, DL.addR_str, DL.addR_lst, DL.addR_tup, DL.oAddM_eq, DL.addMR_lst, DL.oInt_eq, DL.intR_int, DL.oInt0_eq, DL.int0R_int, DL.oNeg_eq, DL.negR_int, DL.oEqN_eq, DL.eqR_some, DL.eqR_none, DL.eqS_non_non, DL.eqS_non_int, DL.eqS_non_bl, DL.eqS_non_str, DL.eqS_non_lst, DL.eqS_non_tup, DL.eqS_int_non, DL.eqS_int_int, DL.eqS_int_bl, DL.eqS_int_str, DL.eqS_int_lst, DL.eqS_int_tup, DL.eqS_bl_non, DL.eqS_bl_int, DL.eqS_bl_bl, DL.eqS_bl_str, DL.eqS_bl_lst, DL.eqS_bl_tup, DL.eqS_str_non, DL.eqS_str_int, DL.eqS_str_bl, DL.eqS_str_str, DL.eqS_str_lst, DL.eqS_str_tup, DL.eqS_lst_non, DL.eqS_lst_int, DL.eqS_lst_bl, DL.eqS_lst_str, DL.eqS_lst_lst, DL.eqS_lst_tup, DL.eqS_tup_non, DL.eqS_tup_int, DL.eqS_tup_bl, DL.eqS_tup_str, DL.eqS_tup_lst, DL.eqS_tup_tup, DL.eqS_obj_non, DL.eqS_non_obj, DL.eqS_obj_int, DL.eqS_int_obj, DL.eqS_obj_bl, DL.eqS_bl_obj, DL.eqS_obj_str, DL.eqS_str_obj, DL.eqS_obj_lst, DL.eqS_lst_obj, DL.eqS_obj_tup, DL.eqS_tup_obj, DL.eqS_obj_obj, DL.oInN_eq, DL.inR_lst, DL.inR_tup, DL.inR_str, DL.flatD_non, DL.flatD_bl, DL.flatD_int, DL.flatD_str, DL.asB_bl, DL.isN_non, DL.isN_bl, DL.isN_int, DL.isN_str, DL.isN_lst, DL.isN_tup, DL.isN_dic, DL.isN_scr, DL.isN_ty, DL.isN_obj, DL.frz_non, DL.frz_bl, DL.frz_int, DL.frz_str, DL.frz_lst, DL.frz_tup, DL.frz_dic, DL.frz_scr, DL.frz_ty, DL.oIx_eq, DL.ixR_lst, DL.ixR_tup, DL.ixR_scr, DL.ixR_str, DL.ixR_dic, DL.nth_0, DL.nth_1, DL.nth_2, DL.nth_3, DL.oSl_eq, DL.slR_lst, DL.slR_tup, DL.slR_str, DL.dPart_eq, DL.partR_int, DL.on1_cons, DL.on2_cons, DL.lenD_lst, DL.lenD_tup, DL.lenD_scr, DL.lenD_str, DL.intD_int, DL.intD_bl, DL.strD_int, DL.int2_int, DL.listM_lst, DL.listF_lst, DL.listM_tup, DL.listF_tup, DL.dictM_dic, DL.isiD_ty, DL.oAppend_obj, DL.oInsert_obj, DL.oPop_obj, DL.oPopAt_obj, DL.isLst_eq, DL.isLstR_lst, DL.isStr_str, DL.oSplit_str, DL.oJoin_str, DL.itemsOf_lst, DL.itemsOf_tup, DL.itemsOf_str, DL.rng1_int, DL.enumOf_lst, DL.two_tup, DL.insIs_obj, DL.getFld_obj, DL.setFld_obj, DL.putDic_obj, DL.isB_str_non, DL.isB_str_bl, DL.isB_str_int, DL.isB_str_str, DL.isB_str_lst, DL.isB_str_tup, DL.isB_str_dic, DL.isB_int_non, DL.isB_int_bl, DL.isB_int_int, DL.isB_int_str, DL.isB_int_lst, DL.isB_int_tup, DL.isB_int_dic, DL.isB_bool_non, DL.isB_bool_bl, DL.isB_bool_int, DL.isB_bool_str, DL.isB_bool_lst, DL.isB_bool_tup, DL.isB_bool_dic, DL.isB_list_non, DL.isB_list_bl, DL.isB_list_int, DL.isB_list_str, DL.isB_list_lst, DL.isB_list_tup, DL.isB_list_dic, DL.isB_tuple_non, DL.isB_tuple_bl, DL.isB_tuple_int, DL.isB_tuple_str, DL.isB_tuple_lst, DL.isB_tuple_tup, DL.isB_tuple_dic, Bool.cond_true, Bool.cond_false, L2.CDiv, Int.reduceLT, Int.reduceLE, true_and, and_true, cond_true, cond_false, List.map_cons, List.map_nil, List.set_cons_zero, List.set_cons_succ, List.set_nil, DL.cpow_109, DL.pow_109, DL.frz_set_lst, DL.frz_set_dic, Bool.not_true, Bool.not_false, DL.itemsOf_obj, DL.enumOf_obj, DL.all_still, okD_non, okD_bl, okD_int, okD_str, okD_lst, okD_tup, okD_dic, res_set_lst, Mem.set_same, Mem.set_set, m_l_cell_at, Int.reduceLE, m_l_people, m_l_wish_by, m_l_rows_by])
/-! ### told(rows): 0 rows, 1 row -/
def t_told  : DSt :=
  (dRet (dMet isStr oJoin (dC (.str "")) (dCons (dLc (dItems (dVar 0)) 1 dYes (dOp oAdd (dMet isStr oJoin (dC (.str " ")) (dCons (dVar 1) dNil)) (dC (.str "\n")))) dNil)))
local macro_rules | `(tactic| walk_at "un") => `(tactic| simp only [t_told])
def m_told : FDm := fun ds M Q _ => ∃ (d : D) (l : List Rw), ds = [d] ∧ Vw d (eRows l) M ∧ (∀ r ∈ l, nameOk r.name = true) ∧ l.length ≤ 2000 ∧ Q (.str (textOf l)) M
theorem len_told : ∀ ds M Q X, m_told ds M Q X → ds.length = 1 := fun ds M Q X ⟨_, _, h, _⟩ => by subst h; rfl
/-- the line of a row, as data -/
def lineD : D → D
  | .tup ds => .str (Txt.join sp (ds.map fun d => match d with | .str z => z | _ => sp) ++ nl)
  | _ => .non
theorem lineD_eR (r : Rw) : lineD (eR r) = .str (lineOf r) := by
  unfold eR lineD lineOf bodyOf
  simp only [List.map_map]
  congr 3
  exact List.map_id _
theorem lineD_eRows (l : List Rw) : (eRows l).map lineD = (l.map lineOf).map .str := by
  unfold eRows
  rw [List.map_map, List.map_map]
  exact List.map_congr_left fun r _ => lineD_eR r
theorem read_told : ∀ ds M Q X, m_told ds M Q X → t_told (bodyE Q X) (startD 2 ds) M := by
  rintro ds M Q X ⟨d, l, rfl, hv, hn, hl, h⟩
  walk_at "un"
  walk_at "dl"
  refine hv.items fun P hP => ?_
  refine lc_map lineD (fun x hx M1 hs Qd q => ?_) ?_ hP
  · unfold eRows at hx
    obtain ⟨r, hr, rfl⟩ := List.mem_map.mp hx
    have hr := hn r hr
    rw [lineD_eR] at q
    unfold eR
    walk_at "dl"
    refine ⟨r.words, .inr rfl, by have := words_size hr; show _ + _ * sp.length ≤ _; omega, strOk_plain (body_plain hr) (by have := body_len hr; rw [sizeLine_eq]; show (bodyOf r).length ≤ _; omega), ?_, q⟩
    have := body_len hr
    show (bodyOf r).length + nl.length ≤ _
    rw [nl_len, sizeLine_eq]
    omega
  · rw [lineD_eRows]
    walk_at "dl"
    have := lines_size hn
    have := text_len hn
    exact ⟨l.map lineOf, .inl rfl, by omega, strOk_plain (text_plain hn) (by rw [sizeLine_eq]; show (textOf l).length ≤ _; omega), retD_of h⟩

/-! ### is_wish(thing): 0 thing -/
def t_is_wish  : DSt :=
  (dRet (dAndV (dCall (on2 isiD) (dCons (dVar 0) (dCons (dC (.ty "str")) dNil))) (dOrV (dOp oEq (dVar 0) (dC (.str "read"))) (dOp oEq (dVar 0) (dC (.str "write"))))))
local macro_rules | `(tactic| walk_at "un") => `(tactic| simp only [t_is_wish])
def m_is_wish : FDm := fun ds M Q _ => match ds with
  | [d] => okD d = true ∧ Q (.bl (isWish d)) M
  | _ => False
theorem len_is_wish : ∀ ds M Q X, m_is_wish ds M Q X → ds.length = 1 := fun ds M Q X h => by
  unfold m_is_wish at h
  split at h <;> first | rfl | exact h.elim
theorem read_is_wish : ∀ ds M Q X, m_is_wish ds M Q X → t_is_wish (bodyE Q X) (startD 1 ds) M := by
  intro ds M Q X h
  unfold m_is_wish at h
  split at h
  rotate_left
  · exact h.elim
  rename_i d
  obtain ⟨hd, h⟩ := h
  walk_at "un"
  cases d with
  | str z =>
    walk_at "dl"
    have hw : isWish (.str z) = (decide (z = Str.ofString "read") || decide (z = Str.ofString "write")) := rfl
    rw [hw] at h
    refine cond_dec (fun h1 => ?_) fun h1 => ?_
    · rw [decide_eq_true h1, Bool.true_or] at h
      exact retD_of h
    · rw [decide_eq_false h1, Bool.false_or] at h
      exact retD_of h
  | non => walk_at "dl"; exact retD_of h
  | bl b => walk_at "dl"; exact retD_of h
  | int b => walk_at "dl"; exact retD_of h
  | lst b => walk_at "dl"; exact retD_of h
  | tup b => walk_at "dl"; exact retD_of h
  | dic b => walk_at "dl"; exact retD_of h
  | scr b => cases hd
  | obj b => cases hd
  | ty b => cases hd
-- SIMP m_is_wish

local macro_rules | `(tactic| walk_at "dl") => `(tactic| simp -implicitDefEqProofs only [DL.dNext, DL.dSeq, DL.dExpr, DL.dRet, DL.dIfS, DL.dSet, DL.dCont, DL.dRaise, DL.dFor, DL.dgName, DL.dgPair, DL.dTry, DL.dFn, DL.dMth, DL.dMk, DL.dFld, DL.dFldS, DL.dPut, DL.dVar, DL.slot, DL.dC, DL.dOp, DL.dUn, DL.oSub, DL.oMul, DL.oDiv, DL.oMod, DL.oPow, DL.oLt, DL.oLe, DL.oGt, DL.oGe, DL.oEq, DL.oNe, DL.oIn, DL.oNotIn, DL.dB, DL.dIsN, DL.dChain, DL.dAnd, DL.dOr, DL.dNot, DL.dAndV, DL.dOrV, DL.dNotV, DL.dIf, DL.dNil, DL.dCons, DL.few, DL.dLst, DL.dTup, DL.dLstM, DL.dFrz, DL.dPairs, DL.dDisp, DL.dDic0, DL.dSl, DL.dNoPart, DL.dCall, DL.dMet0L, DL.dMet, DL.dItems, DL.dRange1, DL.dEnum, DL.dLcM, DL.dwipe, DL.startD, DL.dNever, DL.el_some, DL.elL_lst, DL.elD_dic, DL.elI_ins, DL.res_non, DL.res_bl, DL.res_int, DL.res_str, DL.res_lst, DL.res_tupE, DL.res_dic, DL.res_scr, DL.res_ty, DL.oAdd_eq, DL.addR_int, DL.addR_str, DL.addR_lst, DL.addR_tup, DL.oAddM_eq, DL.addMR_lst, DL.oInt_eq, DL.intR_int, DL.oInt0_eq, DL.int0R_int, DL.oNeg_eq, DL.negR_int, DL.oEqN_eq, DL.eqR_some, DL.eqR_none, DL.eqS_non_non, DL.eqS_non_int, DL.eqS_non_bl, DL.eqS_non_str, DL.eqS_non_lst, DL.eqS_non_tup, DL.eqS_int_non, DL.eqS_int_int, DL.eqS_int_bl, DL.eqS_int_str, DL.eqS_int_lst, DL.eqS_int_tup, DL.eqS_bl_non, DL.eqS_bl_int, DL.eqS_bl_bl, DL.eqS_bl_str, DL.eqS_bl_lst, DL.eqS_bl_tup, DL.eqS_str_non, DL.eqS_str_int, DL.eqS_str_bl, DL.eqS_str_str, DL.eqS_str_lst, DL.eqS_str_tup, DL.eqS_lst_non, DL.eqS_lst_int, DL.eqS_lst_bl, DL.eqS_lst_str, DL.eqS_lst_lst, DL.eqS_lst_tup, DL.eqS_tup_non, DL.eqS_tup_int, DL.eqS_tup_bl, DL.eqS_tup_str, DL.eqS_tup_lst, DL.eqS_tup_tup, DL.eqS_obj_non, DL.eqS_non_obj, DL.eqS_obj_int, DL.eqS_int_obj, DL.eqS_obj_bl, DL.eqS_bl_obj, DL.eqS_obj_str, DL.eqS_str_obj, DL.eqS_obj_lst, DL.eqS_lst_obj, DL.eqS_obj_tup, DL.eqS_tup_obj, DL.eqS_obj_obj, DL.oInN_eq, DL.inR_lst, DL.inR_tup, DL.inR_str, DL.flatD_non, DL.flatD_bl, DL.flatD_int, DL.flatD_str, DL.asB_bl, DL.isN_non, DL.isN_bl, DL.isN_int, DL.isN_str, DL.isN_lst, DL.isN_tup, DL.isN_dic, DL.isN_scr, DL.isN_ty, DL.isN_obj, DL.frz_non, DL.frz_bl, DL.frz_int, DL.frz_str, DL.frz_lst, DL.frz_tup, DL.frz_dic, DL.frz_scr, DL.frz_ty, DL.oIx_eq, DL.ixR_lst, DL.ixR_tup, DL.ixR_scr, DL.ixR_str, DL.ixR_dic, DL.nth_0, DL.nth_1, DL.nth_2, DL.nth_3, DL.oSl_eq, DL.slR_lst, DL.slR_tup, DL.slR_str, DL.dPart_eq, DL.partR_int, DL.on1_cons, DL.on2_cons, DL.lenD_lst, DL.lenD_tup, DL.lenD_scr, DL.lenD_str, DL.intD_int, DL.intD_bl, DL.strD_int, DL.int2_int, DL.listM_lst, DL.listF_lst, DL.listM_tup, DL.listF_tup, DL.dictM_dic, DL.isiD_ty, DL.oAppend_obj, DL.oInsert_obj, DL.oPop_obj, DL.oPopAt_obj, DL.isLst_eq, DL.isLstR_lst, DL.isStr_str, DL.oSplit_str, DL.oJoin_str, DL.itemsOf_lst, DL.itemsOf_tup, DL.itemsOf_str, DL.rng1_int, DL.enumOf_lst, DL.two_tup, DL.insIs_obj, DL.getFld_obj, DL.setFld_obj, DL.putDic_obj, DL.isB_str_non, DL.isB_str_bl, DL.isB_str_int, DL.isB_str_str, DL.isB_str_lst, DL.isB_str_tup, DL.isB_str_dic, DL.isB_int_non, DL.isB_int_bl, DL.isB_int_int, DL.isB_int_str, DL.isB_int_lst, DL.isB_int_tup, DL.isB_int_dic, DL.isB_bool_non, DL.isB_bool_bl, DL.isB_bool_int, DL.isB_bool_str, DL.isB_bool_lst, DL.isB_bool_tup, DL.isB_bool_dic, DL.isB_list_non, DL.isB_list_bl, DL.isB_list_int, DL.isB_list_str, DL.isB_list_lst, DL.isB_list_tup, DL.isB_list_dic, DL.isB_tuple_non, DL.isB_tuple_bl, DL.isB_tuple_int, DL.isB_tuple_str, DL.isB_tuple_lst, DL.isB_tuple_tup, DL.isB_tuple_dic, Bool.cond_true, Bool.cond_false, L2.CDiv, Int.reduceLT, Int.reduceLE, true_and, and_true, cond_true, cond_false, List.map_cons, List.map_nil, List.set_cons_zero, List.set_cons_succ, List.set_nil, DL.cpow_109, DL.pow_109, DL.frz_set_lst, DL.frz_set_dic, Bool.not_true, Bool.not_false, DL.itemsOf_obj, DL.enumOf_obj, DL.all_still, okD_non, okD_bl, okD_int, okD_str, okD_lst, okD_tup, okD_dic, res_set_lst, Mem.set_same, Mem.set_set, m_l_cell_at, Int.reduceLE, m_l_people, m_l_wish_by, m_l_rows_by, m_is_wish])
/-! ### is_name(thing): 0 thing, 1 sign -/
def t_is_name_L1  : DSt :=
  (dIfS (dB (dOp oNotIn (dVar 1) (dC (.str "abcdefghijklmnopqrstuvwxyz0123456789")))) (dRet (dC (.bl false))) dNext)
def t_is_name_2  : DSt :=
  (dRet (dC (.bl true)))
def t_is_name_1  : DSt :=
  (dSeq (dFor (dItems (dVar 0)) (dgName 1) t_is_name_L1)
  t_is_name_2)
def t_is_name  : DSt :=
  (dSeq (dIfS (dOr (dNot (dB (dCall (on2 isiD) (dCons (dVar 0) (dCons (dC (.ty "str")) dNil))))) (dNot (dB (dChain oLe oLe (dC (.int 1)) (dCall (on1 lenD) (dCons (dVar 0) dNil)) (dC (.int 12)))))) (dRet (dC (.bl false))) dNext)
  t_is_name_1)
local macro_rules | `(tactic| walk_at "un") => `(tactic| simp only [t_is_name_2, t_is_name_1, t_is_name])
def m_is_name : FDm := fun ds M Q _ => match ds with
  | [d] => okD d = true ∧ Q (.bl (isName d)) M
  | _ => False
theorem len_is_name : ∀ ds M Q X, m_is_name ds M Q X → ds.length = 1 := fun ds M Q X h => by
  unfold m_is_name at h
  split at h <;> first | rfl | exact h.elim
theorem name_loop {E : DEnds} {M : Mem} {d : D} : ∀ (cs : List Nat) (o : Option D), (cs.all (fun c => decide (c ∈ signsL)) = true → ∀ o, E.nx [some d, o] M) → (cs.all (fun c => decide (c ∈ signsL)) = false → E.rt (.bl false) M) →
    forL (dgName 1) (dIfS (dB (dOp oNotIn (dVar 1) (dC (.str "abcdefghijklmnopqrstuvwxyz0123456789")))) (dRet (dC (.bl false))) dNext) E (cs.map fun c => .str ⟨#[c]⟩) [some d, o] M
  | [], o, h1, _ => h1 rfl o
  | c :: cs, o, h1, h2 => by
    rw [List.map_cons]
    rw [List.all_cons] at h1 h2
    unfold forL
    simp only [dgName, List.set_cons_zero, List.set_cons_succ, dIfS, dB, dOp, dVar, slot, el_some, dC, oNotIn, oInN_eq, res_str, inR_str, asB_bl, dRet, dNext, cond_true]
    refine cond_of (fun hc => ?_) fun hc => ?_
    · refine h2 ?_
      have : decide (c ∈ signsL) = false := by simpa [signsL] using hc
      rw [this]
      rfl
    · have hc' : decide (c ∈ signsL) = true := by simpa [signsL] using hc
      rw [hc', Bool.true_and] at h1 h2
      exact name_loop (E := E) cs _ h1 h2
theorem read_is_name : ∀ ds M Q X, m_is_name ds M Q X → t_is_name (bodyE Q X) (startD 2 ds) M := by
  intro ds M Q X h
  unfold m_is_name at h
  split at h
  rotate_left
  · exact h.elim
  rename_i d
  obtain ⟨hd, h⟩ := h
  walk_at "un"
  cases d with
  | str z =>
    simp only [dSeq, dIfS, dOr, dNot, dB, dCall, dCons, dNil, dVar, startD, slot, el_some, dC, on2_cons, res_str, res_ty, isiD_ty, isB_str_str, asB_bl, dChain, on1_cons, lenD_str, oLe, oInt0_eq, res_int, int0R_int, Bool.not_true, Bool.not_false, cond_true, cond_false, dRet, dNext, dFor, dItems, itemsOf_str]
    have hn : isName (.str z) = nameOk z := rfl
    rw [hn] at h
    unfold nameOk at h
    refine cond_of (fun h1 => cond_of (fun h2 => ?_) fun h2 => ?_) fun h1 => ?_
    · have h2' : ¬ z.length ≤ 12 := by
        have : ¬ ((z.length : Int) ≤ 12) := by simpa using h2
        omega
      rw [decide_eq_false h2', Bool.and_false, Bool.false_and] at h
      exact retD_of h
    · have h2' : z.length ≤ 12 := by
        have : ((z.length : Int) ≤ 12) := by simpa using h2
        omega
      have h1' : 1 ≤ z.length := by
        have : (1 ≤ (z.length : Int)) := by simpa using h1
        omega
      rw [decide_eq_true h1', decide_eq_true h2', Bool.true_and, Bool.true_and] at h
      unfold signsD
      unfold t_is_name_L1
      refine forI_of (name_loop _ _ (fun ha o => ?_) fun ha => ?_)
      · rw [ha] at h
        exact retD_of h
      · rw [ha] at h
        exact retD_of h
    · have h1' : ¬ 1 ≤ z.length := by
        have : ¬ (1 ≤ (z.length : Int)) := by simpa using h1
        omega
      rw [decide_eq_false h1', Bool.false_and, Bool.false_and] at h
      exact retD_of h
  | non => walk_at "dl"; exact retD_of h
  | bl b => walk_at "dl"; exact retD_of h
  | int b => walk_at "dl"; exact retD_of h
  | lst b => walk_at "dl"; exact retD_of h
  | tup b => walk_at "dl"; exact retD_of h
  | dic b => walk_at "dl"; exact retD_of h
  | scr b => cases hd
  | obj b => cases hd
  | ty b => cases hd
-- SIMP m_is_name

local macro_rules | `(tactic| walk_at "dl") => `(tactic| simp -implicitDefEqProofs only [DL.dNext, DL.dSeq, DL.dExpr, DL.dRet, DL.dIfS, DL.dSet, DL.dCont, DL.dRaise, DL.dFor, DL.dgName, DL.dgPair, DL.dTry, DL.dFn, DL.dMth, DL.dMk, DL.dFld, DL.dFldS, DL.dPut, DL.dVar, DL.slot, DL.dC, DL.dOp, DL.dUn, DL.oSub, DL.oMul, DL.oDiv, DL.oMod, DL.oPow, DL.oLt, DL.oLe, DL.oGt, DL.oGe, DL.oEq, DL.oNe, DL.oIn, DL.oNotIn, DL.dB, DL.dIsN, DL.dChain, DL.dAnd, DL.dOr, DL.dNot, DL.dAndV, DL.dOrV, DL.dNotV, DL.dIf, DL.dNil, DL.dCons, DL.few, DL.dLst, DL.dTup, DL.dLstM, DL.dFrz, DL.dPairs, DL.dDisp, DL.dDic0, DL.dSl, DL.dNoPart, DL.dCall, DL.dMet0L, DL.dMet, DL.dItems, DL.dRange1, DL.dEnum, DL.dLcM, DL.dwipe, DL.startD, DL.dNever, DL.el_some, DL.elL_lst, DL.elD_dic, DL.elI_ins, DL.res_non, DL.res_bl, DL.res_int, DL.res_str, DL.res_lst, DL.res_tupE, DL.res_dic, DL.res_scr, DL.res_ty, DL.oAdd_eq, DL.addR_int, DL.addR_str, DL.addR_lst, DL.addR_tup, DL.oAddM_eq, DL.addMR_lst, DL.oInt_eq, DL.intR_int, DL.oInt0_eq, DL.int0R_int, DL.oNeg_eq, DL.negR_int, DL.oEqN_eq, DL.eqR_some, DL.eqR_none, DL.eqS_non_non, DL.eqS_non_int, DL.eqS_non_bl, DL.eqS_non_str, DL.eqS_non_lst, DL.eqS_non_tup, DL.eqS_int_non, DL.eqS_int_int, DL.eqS_int_bl, DL.eqS_int_str, DL.eqS_int_lst, DL.eqS_int_tup, DL.eqS_bl_non, DL.eqS_bl_int, DL.eqS_bl_bl, DL.eqS_bl_str, DL.eqS_bl_lst, DL.eqS_bl_tup, DL.eqS_str_non, DL.eqS_str_int, DL.eqS_str_bl, DL.eqS_str_str, DL.eqS_str_lst, DL.eqS_str_tup, DL.eqS_lst_non, DL.eqS_lst_int, DL.eqS_lst_bl, DL.eqS_lst_str, DL.eqS_lst_lst, DL.eqS_lst_tup, DL.eqS_tup_non, DL.eqS_tup_int, DL.eqS_tup_bl, DL.eqS_tup_str, DL.eqS_tup_lst, DL.eqS_tup_tup, DL.eqS_obj_non, DL.eqS_non_obj, DL.eqS_obj_int, DL.eqS_int_obj, DL.eqS_obj_bl, DL.eqS_bl_obj, DL.eqS_obj_str, DL.eqS_str_obj, DL.eqS_obj_lst, DL.eqS_lst_obj, DL.eqS_obj_tup, DL.eqS_tup_obj, DL.eqS_obj_obj, DL.oInN_eq, DL.inR_lst, DL.inR_tup, DL.inR_str, DL.flatD_non, DL.flatD_bl, DL.flatD_int, DL.flatD_str, DL.asB_bl, DL.isN_non, DL.isN_bl, DL.isN_int, DL.isN_str, DL.isN_lst, DL.isN_tup, DL.isN_dic, DL.isN_scr, DL.isN_ty, DL.isN_obj, DL.frz_non, DL.frz_bl, DL.frz_int, DL.frz_str, DL.frz_lst, DL.frz_tup, DL.frz_dic, DL.frz_scr, DL.frz_ty, DL.oIx_eq, DL.ixR_lst, DL.ixR_tup, DL.ixR_scr, DL.ixR_str, DL.ixR_dic, DL.nth_0, DL.nth_1, DL.nth_2, DL.nth_3, DL.oSl_eq, DL.slR_lst, DL.slR_tup, DL.slR_str, DL.dPart_eq, DL.partR_int, DL.on1_cons, DL.on2_cons, DL.lenD_lst, DL.lenD_tup, DL.lenD_scr, DL.lenD_str, DL.intD_int, DL.intD_bl, DL.strD_int, DL.int2_int, DL.listM_lst, DL.listF_lst, DL.listM_tup, DL.listF_tup, DL.dictM_dic, DL.isiD_ty, DL.oAppend_obj, DL.oInsert_obj, DL.oPop_obj, DL.oPopAt_obj, DL.isLst_eq, DL.isLstR_lst, DL.isStr_str, DL.oSplit_str, DL.oJoin_str, DL.itemsOf_lst, DL.itemsOf_tup, DL.itemsOf_str, DL.rng1_int, DL.enumOf_lst, DL.two_tup, DL.insIs_obj, DL.getFld_obj, DL.setFld_obj, DL.putDic_obj, DL.isB_str_non, DL.isB_str_bl, DL.isB_str_int, DL.isB_str_str, DL.isB_str_lst, DL.isB_str_tup, DL.isB_str_dic, DL.isB_int_non, DL.isB_int_bl, DL.isB_int_int, DL.isB_int_str, DL.isB_int_lst, DL.isB_int_tup, DL.isB_int_dic, DL.isB_bool_non, DL.isB_bool_bl, DL.isB_bool_int, DL.isB_bool_str, DL.isB_bool_lst, DL.isB_bool_tup, DL.isB_bool_dic, DL.isB_list_non, DL.isB_list_bl, DL.isB_list_int, DL.isB_list_str, DL.isB_list_lst, DL.isB_list_tup, DL.isB_list_dic, DL.isB_tuple_non, DL.isB_tuple_bl, DL.isB_tuple_int, DL.isB_tuple_str, DL.isB_tuple_lst, DL.isB_tuple_tup, DL.isB_tuple_dic, Bool.cond_true, Bool.cond_false, L2.CDiv, Int.reduceLT, Int.reduceLE, true_and, and_true, cond_true, cond_false, List.map_cons, List.map_nil, List.set_cons_zero, List.set_cons_succ, List.set_nil, DL.cpow_109, DL.pow_109, DL.frz_set_lst, DL.frz_set_dic, Bool.not_true, Bool.not_false, DL.itemsOf_obj, DL.enumOf_obj, DL.all_still, okD_non, okD_bl, okD_int, okD_str, okD_lst, okD_tup, okD_dic, res_set_lst, Mem.set_same, Mem.set_set, m_l_cell_at, Int.reduceLE, m_l_people, m_l_wish_by, m_l_rows_by, m_is_wish, m_is_name])
/-! ### read_row(line): 0 line, 1 words -/
def t_read_row_3 (A : Adr) : DSt :=
  (dRaise A.BadText)
def t_read_row_2 (A : Adr) : DSt :=
  (dSeq (dIfS (dAnd (dB (dOp oEq (dCall (on1 lenD) (dCons (dVar 1) dNil)) (dC (.int 2)))) (dOr (dB (dOp oEq (dOp oIx (dVar 1) (dC (.int 0))) (dC (.str "left")))) (dOr (dB (dOp oEq (dOp oIx (dVar 1) (dC (.int 0))) (dC (.str "asked")))) (dB (dOp oEq (dOp oIx (dVar 1) (dC (.int 0))) (dC (.str "eased"))))))) (dIfS (dB (dFn m_is_name (dCons (dOp oIx (dVar 1) (dC (.int 1))) dNil))) (dRet (dTup (dCons (dOp oIx (dVar 1) (dC (.int 0))) (dCons (dOp oIx (dVar 1) (dC (.int 1))) dNil)))) dNext) dNext)
  (t_read_row_3 A))
def t_read_row_1 (A : Adr) : DSt :=
  (dSeq (dIfS (dAnd (dB (dOp oEq (dCall (on1 lenD) (dCons (dVar 1) dNil)) (dC (.int 3)))) (dOr (dB (dOp oEq (dOp oIx (dVar 1) (dC (.int 0))) (dC (.str "came")))) (dB (dOp oEq (dOp oIx (dVar 1) (dC (.int 0))) (dC (.str "begins")))))) (dIfS (dAnd (dB (dFn m_is_name (dCons (dOp oIx (dVar 1) (dC (.int 1))) dNil))) (dB (dFn m_is_wish (dCons (dOp oIx (dVar 1) (dC (.int 2))) dNil)))) (dRet (dTup (dCons (dOp oIx (dVar 1) (dC (.int 0))) (dCons (dOp oIx (dVar 1) (dC (.int 1))) (dCons (dOp oIx (dVar 1) (dC (.int 2))) dNil))))) dNext) dNext)
  (t_read_row_2 A))
def t_read_row (A : Adr) : DSt :=
  (dSeq (dSet 1 (dMet isStr oSplit (dVar 0) (dCons (dC (.str " ")) dNil)))
  (t_read_row_1 A))
local macro_rules | `(tactic| walk_at "un") => `(tactic| simp only [t_read_row_3, t_read_row_2, t_read_row_1, t_read_row])
def word3 (a b c : Str) : Bool := (decide (a = Str.ofString "came") || decide (a = Str.ofString "begins")) && (nameOk b && isWish (.str c))
def word2 (a b : Str) : Bool := (decide (a = Str.ofString "left") || (decide (a = Str.ofString "asked") || decide (a = Str.ofString "eased"))) && nameOk b
/-- whether words are a row's -/
def wordsOk : List Str → Bool
  | [a, b, c] => word3 a b c
  | [a, b] => word2 a b
  | _ => false
def m_read_row (A : Adr) : FDm := fun ds M Q X => match ds with
  | [.str z] => z.length ≤ 1000000 ∧ strOk z = true ∧ (wordsOk (Txt.split z sp) = true → Q (.tup ((Txt.split z sp).map .str)) M) ∧ (wordsOk (Txt.split z sp) = false → X A.BadText M)
  | _ => False
theorem len_read_row (A : Adr) : ∀ ds M Q X, m_read_row A ds M Q X → ds.length = 1 := fun ds M Q X h => by
  unfold m_read_row at h
  split at h <;> first | rfl | exact h.elim
theorem mem_joinL_of {S p : List Nat} {c : Nat} : ∀ {ps : List (List Nat)}, p ∈ ps → c ∈ p → c ∈ TL.joinL S ps
  | [], h, _ => by cases h
  | [q], h, k => by
    rw [List.mem_singleton.mp h] at k
    exact k
  | x :: q :: r, h, k => by
    show c ∈ x ++ (S ++ TL.joinL S (q :: r))
    rcases List.mem_cons.mp h with e | h
    · subst e; exact List.mem_append.mpr (.inl k)
    · exact List.mem_append.mpr (.inr (List.mem_append.mpr (.inr (mem_joinL_of h k))))
theorem split_mem {z y p : Str} (h : p ∈ Txt.split z y) {c : Nat} (hc : c ∈ p.cps.toList) : c ∈ z.cps.toList := by
  have e := StrLaws.join_split z y
  rw [← e]
  show c ∈ TL.tl (Str.join y (Txt.split z y))
  rw [TL.tl_join]
  exact mem_joinL_of (List.mem_map.mpr ⟨p, h, rfl⟩) hc
theorem le_sum {l : List Str} {p : Str} (h : p ∈ l) : p.length ≤ (l.map (·.length)).sum := by
  induction l with
  | nil => cases h
  | cons x l ih =>
    rw [List.map_cons, List.sum_cons]
    rcases List.mem_cons.mp h with e | h
    · subst e; omega
    · have := ih h; omega
theorem split_parts {z y p : Str} (hy : 1 ≤ y.length) (hz : strOk z = true) (hl : z.length ≤ 1000000) (h : p ∈ Txt.split z y) : strOk p = true := by
  have w := PyProof.Rows.split_weight z y hy
  have := le_sum h
  refine strOk_iff.mpr ⟨fun c hc => (strOk_iff.mp hz).1 c (split_mem h hc), by rw [sizeLine_eq]; omega⟩
theorem read_read_row (A : Adr) : ∀ ds M Q X, m_read_row A ds M Q X → t_read_row A (bodyE Q X) (startD 2 ds) M := by
  intro ds M Q X h
  unfold m_read_row at h
  split at h
  rotate_left
  · exact h.elim
  rename_i z
  obtain ⟨hl, hz, hq, hx⟩ := h
  unfold t_read_row t_read_row_1
  walk_at "dl"
  have w := PyProof.Rows.split_weight z sp (by rw [sp_len]; omega)
  refine ⟨by decide +kernel, by rw [sizeLine_eq]; omega, ?_, fun p hp => split_parts (y := sp) (by rw [sp_len]; omega) hz hl hp, ?_⟩
  · show (Txt.split z sp).length ≤ _
    rw [sizeLine_eq]
    omega
  have e0 : Txt.split z (Str.ofString " ") = Txt.split z sp := rfl
  rw [e0]
  generalize Txt.split z sp = ws at hq hx w
  have no : wordsOk ws = false → retX X A.BadText [some (.str z), some (.lst (ws.map .str))] M := fun e => retX_of (hx e)
  match ws with
  | [] =>
    walk_at "dl"
    refine cond_dec (fun h => absurd h (by decide)) fun _ => ?_
    unfold t_read_row_2
    walk_at "dl"
    refine cond_dec (fun h => absurd h (by decide)) fun _ => ?_
    unfold t_read_row_3
    walk_at "dl"
    exact no rfl
  | [a] =>
    walk_at "dl"
    refine cond_dec (fun h => absurd h (by show ¬ (1 : Int) = 3; decide)) fun _ => ?_
    unfold t_read_row_2
    walk_at "dl"
    refine cond_dec (fun h => absurd h (by show ¬ (1 : Int) = 2; decide)) fun _ => ?_
    unfold t_read_row_3
    walk_at "dl"
    exact no rfl
  | [a, b] =>
    walk_at "dl"
    refine cond_dec (fun h => absurd h (by show ¬ (2 : Int) = 3; decide)) fun _ => ?_
    unfold t_read_row_2
    walk_at "dl"
    refine cond_dec (fun _ => ?_) fun h => absurd (show (2 : Int) = 2 from rfl) h
    have hw : wordsOk [a, b] = word2 a b := rfl
    have hn : isName (.str b) = nameOk b := rfl
    rw [hw] at hq no
    rw [hn]
    unfold word2 at hq no
    have out : ((decide (a = Str.ofString "left") || (decide (a = Str.ofString "asked") || decide (a = Str.ofString "eased"))) && nameOk b) = false → t_read_row_3 A (bodyE Q X) [some (.str z), some (.lst [.str a, .str b])] M := fun e => by
      unfold t_read_row_3
      walk_at "dl"
      exact no e
    refine cond_dec (fun h1 => cond_of (fun h2 => ?_) fun h2 => ?_) fun h1 => cond_dec (fun h3 => cond_of (fun h2 => ?_) fun h2 => ?_) fun h3 => cond_dec (fun h4 => cond_of (fun h2 => ?_) fun h2 => ?_) fun h4 => ?_
    · exact retD_of (hq (by simp [h1, h2]))
    · exact out (by simp [h2])
    · exact retD_of (hq (by simp [h3, h2]))
    · exact out (by simp [h2])
    · exact retD_of (hq (by simp [h4, h2]))
    · exact out (by simp [h2])
    · exact out (by simp [h1, h3, h4])
  | [a, b, c] =>
    walk_at "dl"
    refine cond_dec (fun _ => ?_) fun h => absurd (show (3 : Int) = 3 from rfl) h
    have hw : wordsOk [a, b, c] = word3 a b c := rfl
    have hn : isName (.str b) = nameOk b := rfl
    rw [hw] at hq no
    rw [hn]
    unfold word3 at hq no
    have out : ((decide (a = Str.ofString "came") || decide (a = Str.ofString "begins")) && (nameOk b && isWish (.str c))) = false → t_read_row_2 A (bodyE Q X) [some (.str z), some (.lst [.str a, .str b, .str c])] M := fun e => by
      unfold t_read_row_2
      walk_at "dl"
      refine cond_dec (fun h => absurd h (by show ¬ (3 : Int) = 2; decide)) fun _ => ?_
      unfold t_read_row_3
      walk_at "dl"
      exact no e
    refine cond_dec (fun h1 => cond_of (fun h2 => cond_of (fun h5 => ?_) fun h5 => ?_) fun h2 => ?_) fun h1 => cond_dec (fun h3 => cond_of (fun h2 => cond_of (fun h5 => ?_) fun h5 => ?_) fun h2 => ?_) fun h3 => ?_
    · exact retD_of (hq (by simp [h1, h2, h5]))
    · exact out (by simp [h2, h5])
    · exact out (by simp [h2])
    · exact retD_of (hq (by simp [h3, h2, h5]))
    · exact out (by simp [h2, h5])
    · exact out (by simp [h2])
    · exact out (by simp [h1, h3])
  | a :: b :: c :: d :: r =>
    walk_at "dl"
    have hlen : ((D.str a :: D.str b :: D.str c :: D.str d :: List.map D.str r).length : Int) = (r.length : Int) + 4 := by
      simp only [List.length_cons, List.length_map]
      omega
    refine cond_dec (fun h => absurd h (by omega)) fun _ => ?_
    unfold t_read_row_2
    walk_at "dl"
    refine cond_dec (fun h => absurd h (by omega)) fun _ => ?_
    unfold t_read_row_3
    walk_at "dl"
    exact no rfl
-- SIMP m_read_row

local macro_rules | `(tactic| walk_at "dl") => `(tactic| simp -implicitDefEqProofs only [DL.dNext, DL.dSeq, DL.dExpr, DL.dRet, DL.dIfS, DL.dSet, DL.dCont, DL.dRaise, DL.dFor, DL.dgName, DL.dgPair, DL.dTry, DL.dFn, DL.dMth, DL.dMk, DL.dFld, DL.dFldS, DL.dPut, DL.dVar, DL.slot, DL.dC, DL.dOp, DL.dUn, DL.oSub, DL.oMul, DL.oDiv, DL.oMod, DL.oPow, DL.oLt, DL.oLe, DL.oGt, DL.oGe, DL.oEq, DL.oNe, DL.oIn, DL.oNotIn, DL.dB, DL.dIsN, DL.dChain, DL.dAnd, DL.dOr, DL.dNot, DL.dAndV, DL.dOrV, DL.dNotV, DL.dIf, DL.dNil, DL.dCons, DL.few, DL.dLst, DL.dTup, DL.dLstM, DL.dFrz, DL.dPairs, DL.dDisp, DL.dDic0, DL.dSl, DL.dNoPart, DL.dCall, DL.dMet0L, DL.dMet, DL.dItems, DL.dRange1, DL.dEnum, DL.dLcM, DL.dwipe, DL.startD, DL.dNever, DL.el_some, DL.elL_lst, DL.elD_dic, DL.elI_ins, DL.res_non, DL.res_bl, DL.res_int, DL.res_str, DL.res_lst, DL.res_tupE, DL.res_dic, DL.res_scr, DL.res_ty, DL.oAdd_eq, DL.addR_int, DL.addR_str, DL.addR_lst, DL.addR_tup, DL.oAddM_eq, DL.addMR_lst, DL.oInt_eq, DL.intR_int, DL.oInt0_eq, DL.int0R_int, DL.oNeg_eq, DL.negR_int, DL.oEqN_eq, DL.eqR_some, DL.eqR_none, DL.eqS_non_non, DL.eqS_non_int, DL.eqS_non_bl, DL.eqS_non_str, DL.eqS_non_lst, DL.eqS_non_tup, DL.eqS_int_non, DL.eqS_int_int, DL.eqS_int_bl, DL.eqS_int_str, DL.eqS_int_lst, DL.eqS_int_tup, DL.eqS_bl_non, DL.eqS_bl_int, DL.eqS_bl_bl, DL.eqS_bl_str, DL.eqS_bl_lst, DL.eqS_bl_tup, DL.eqS_str_non, DL.eqS_str_int, DL.eqS_str_bl, DL.eqS_str_str, DL.eqS_str_lst, DL.eqS_str_tup, DL.eqS_lst_non, DL.eqS_lst_int, DL.eqS_lst_bl, DL.eqS_lst_str, DL.eqS_lst_lst, DL.eqS_lst_tup, DL.eqS_tup_non, DL.eqS_tup_int, DL.eqS_tup_bl, DL.eqS_tup_str, DL.eqS_tup_lst, DL.eqS_tup_tup, DL.eqS_obj_non, DL.eqS_non_obj, DL.eqS_obj_int, DL.eqS_int_obj, DL.eqS_obj_bl, DL.eqS_bl_obj, DL.eqS_obj_str, DL.eqS_str_obj, DL.eqS_obj_lst, DL.eqS_lst_obj, DL.eqS_obj_tup, DL.eqS_tup_obj, DL.eqS_obj_obj, DL.oInN_eq, DL.inR_lst, DL.inR_tup, DL.inR_str, DL.flatD_non, DL.flatD_bl, DL.flatD_int, DL.flatD_str, DL.asB_bl, DL.isN_non, DL.isN_bl, DL.isN_int, DL.isN_str, DL.isN_lst, DL.isN_tup, DL.isN_dic, DL.isN_scr, DL.isN_ty, DL.isN_obj, DL.frz_non, DL.frz_bl, DL.frz_int, DL.frz_str, DL.frz_lst, DL.frz_tup, DL.frz_dic, DL.frz_scr, DL.frz_ty, DL.oIx_eq, DL.ixR_lst, DL.ixR_tup, DL.ixR_scr, DL.ixR_str, DL.ixR_dic, DL.nth_0, DL.nth_1, DL.nth_2, DL.nth_3, DL.oSl_eq, DL.slR_lst, DL.slR_tup, DL.slR_str, DL.dPart_eq, DL.partR_int, DL.on1_cons, DL.on2_cons, DL.lenD_lst, DL.lenD_tup, DL.lenD_scr, DL.lenD_str, DL.intD_int, DL.intD_bl, DL.strD_int, DL.int2_int, DL.listM_lst, DL.listF_lst, DL.listM_tup, DL.listF_tup, DL.dictM_dic, DL.isiD_ty, DL.oAppend_obj, DL.oInsert_obj, DL.oPop_obj, DL.oPopAt_obj, DL.isLst_eq, DL.isLstR_lst, DL.isStr_str, DL.oSplit_str, DL.oJoin_str, DL.itemsOf_lst, DL.itemsOf_tup, DL.itemsOf_str, DL.rng1_int, DL.enumOf_lst, DL.two_tup, DL.insIs_obj, DL.getFld_obj, DL.setFld_obj, DL.putDic_obj, DL.isB_str_non, DL.isB_str_bl, DL.isB_str_int, DL.isB_str_str, DL.isB_str_lst, DL.isB_str_tup, DL.isB_str_dic, DL.isB_int_non, DL.isB_int_bl, DL.isB_int_int, DL.isB_int_str, DL.isB_int_lst, DL.isB_int_tup, DL.isB_int_dic, DL.isB_bool_non, DL.isB_bool_bl, DL.isB_bool_int, DL.isB_bool_str, DL.isB_bool_lst, DL.isB_bool_tup, DL.isB_bool_dic, DL.isB_list_non, DL.isB_list_bl, DL.isB_list_int, DL.isB_list_str, DL.isB_list_lst, DL.isB_list_tup, DL.isB_list_dic, DL.isB_tuple_non, DL.isB_tuple_bl, DL.isB_tuple_int, DL.isB_tuple_str, DL.isB_tuple_lst, DL.isB_tuple_tup, DL.isB_tuple_dic, Bool.cond_true, Bool.cond_false, L2.CDiv, Int.reduceLT, Int.reduceLE, true_and, and_true, cond_true, cond_false, List.map_cons, List.map_nil, List.set_cons_zero, List.set_cons_succ, List.set_nil, DL.cpow_109, DL.pow_109, DL.frz_set_lst, DL.frz_set_dic, Bool.not_true, Bool.not_false, DL.itemsOf_obj, DL.enumOf_obj, DL.all_still, okD_non, okD_bl, okD_int, okD_str, okD_lst, okD_tup, okD_dic, res_set_lst, Mem.set_same, Mem.set_set, m_l_cell_at, Int.reduceLE, m_l_people, m_l_wish_by, m_l_rows_by, m_is_wish, m_is_name, m_read_row])
/-! ### read(text): 0 text, 1 lines, 2 line -/
def t_read_3 (A : Adr) : DSt :=
  (dRet (dLcM (dItems (dSl (dVar 1) dNoPart (dPart (dUn oNeg (dC (.int 1)))))) 2 dYes (dFn (m_read_row A) (dCons (dVar 2) dNil))))
def t_read_2 (A : Adr) : DSt :=
  (dSeq (dIfS (dB (dOp oNe (dOp oIx (dVar 1) (dUn oNeg (dC (.int 1)))) (dC (.str "")))) (dRaise A.BadText) dNext)
  (t_read_3 A))
def t_read_1 (A : Adr) : DSt :=
  (dSeq (dSet 1 (dMet isStr oSplit (dVar 0) (dCons (dC (.str "\n")) dNil)))
  (t_read_2 A))
def t_read (A : Adr) : DSt :=
  (dSeq (dIfS (dNot (dB (dCall (on2 isiD) (dCons (dVar 0) (dCons (dC (.ty "str")) dNil))))) (dRaise A.BadText) dNext)
  (t_read_1 A))
local macro_rules | `(tactic| walk_at "un") => `(tactic| simp only [t_read_3, t_read_2, t_read_1, t_read])
def m_read (A : Adr) : FDm := fun ds M Q X => ∃ l : List Rw, ds = [.str (textOf l)] ∧ (∀ r ∈ l, nameOk r.name = true) ∧ l.length ≤ 2000 ∧ ∀ p, M p = none → Q (.obj p) (M.set p (.lst (eRows l)))
theorem len_read (A : Adr) : ∀ ds M Q X, m_read A ds M Q X → ds.length = 1 := fun ds M Q X ⟨_, h, _⟩ => by subst h; rfl
theorem words_ok {r : Rw} (h : nameOk r.name = true) : wordsOk r.words = true := by
  have hw : ∀ b, isWish (.str (wishS b)) = true := fun b => by cases b <;> decide +kernel
  cases r <;> simp only [Rw.words, wordsOk, word2, word3] <;> simp only [Rw.name] at h <;> simp [h, hw]
theorem nth_last {α : Type} (xs : List α) (x : α) : nth (xs ++ [x]) (-1) = some x := by
  show (if 0 + 1 ≤ (xs ++ [x]).length then (xs ++ [x])[(xs ++ [x]).length - (0 + 1)]? else none) = _
  rw [List.length_append, List.length_singleton, if_pos (by omega), show xs.length + 1 - (0 + 1) = xs.length by omega]
  simp
theorem dcut_init {α : Type} (xs : List α) (x : α) : dcut (xs ++ [x]) none (some (-1)) = xs := by
  unfold dcut
  rw [HT.sIx_none, List.drop_zero, Nat.sub_zero]
  have : HT.sIx (xs ++ [x]).length (xs ++ [x]).length (some (-1)) = xs.length := by
    rw [List.length_append, List.length_singleton]
    unfold HT.sIx
    simp
    omega
  rw [this]
  simp
/-- the row of a line, as data -/
def rowD : D → D
  | .str z => .tup ((Txt.split z sp).map .str)
  | _ => .non
theorem read_read (A : Adr) : ∀ ds M Q X, m_read A ds M Q X → t_read A (bodyE Q X) (startD 3 ds) M := by
  rintro ds M Q X ⟨l, rfl, hl, hn, h⟩
  unfold t_read t_read_1
  walk_at "dl"
  have ht := text_len hl
  have hp := text_plain hl
  have e0 : Txt.split (textOf l) (Str.ofString "\n") = l.map bodyOf ++ [Str.ofString ""] := split_text hl
  rw [e0]
  have hb : ∀ p ∈ l.map bodyOf, p.length ≤ 39 ∧ plain p := fun p hp => by
    obtain ⟨r, hr, rfl⟩ := List.mem_map.mp hp
    exact ⟨body_len (hl r hr), body_plain (hl r hr)⟩
  refine ⟨by decide +kernel, by rw [sizeLine_eq]; omega, by rw [sizeLine_eq, List.length_append, List.length_map]; show _ + 1 ≤ _; omega, fun p hp => ?_, ?_⟩
  · rcases List.mem_append.mp hp with q | q
    · have := hb p q
      exact strOk_plain this.2 (by rw [sizeLine_eq]; omega)
    · rw [List.mem_singleton.mp q]
      decide +kernel
  unfold t_read_2
  walk_at "dl"
  rw [List.map_append, List.map_singleton, nth_last, el_some]
  walk_at "dl"
  simp only [decide_true]
  walk_at "dl"
  unfold t_read_3
  walk_at "dl"
  rw [dcut_init]
  refine lcm_map rowD (fun x hx M1 hs Qd q => ?_) fun D0 hD => ?_
  · obtain ⟨z, hz, rfl⟩ := List.mem_map.mp hx
    obtain ⟨r, hr, rfl⟩ := List.mem_map.mp hz
    have hk := hl r hr
    walk_at "dl"
    have h1 := body_len hk
    have e1 : Txt.split (bodyOf r) sp = r.words := split_body hk
    refine ⟨by omega, strOk_plain (body_plain hk) (by rw [sizeLine_eq]; omega), fun _ => q, fun e => ?_⟩
    rw [e1, words_ok hk] at e
    cases e
  · have e2 : ((l.map bodyOf).map D.str).map rowD = eRows l := by
      unfold eRows
      rw [List.map_map, List.map_map]
      refine List.map_congr_left fun r hr => ?_
      show D.tup ((Txt.split (bodyOf r) sp).map .str) = _
      rw [split_body (hl r hr)]
      rfl
    rw [e2]
    exact retD_of (h D0 hD)

/-! ### _law_rows_alike(_law_found, _law_due): 0 _law_found, 1 _law_due, 2 _law_k, 3 _law_word -/
def t_l_rows_alike_L1_1  : DSt :=
  (dIfS (dB (dOp oNe (dLc (dItems (dOp oIx (dVar 0) (dVar 2))) 3 (dNot (dB (dCall (on2 isiD) (dCons (dVar 3) (dCons (dC (.ty "str")) dNil))))) (dVar 3)) (dLst dNil))) (dRet (dC (.bl false))) dNext)
def t_l_rows_alike_L1  : DSt :=
  (dSeq (dIfS (dOr (dNot (dB (dCall (on2 isiD) (dCons (dOp oIx (dVar 0) (dVar 2)) (dCons (dC (.ty "tuple")) dNil))))) (dB (dOp oNe (dCall (on1 lenD) (dCons (dOp oIx (dVar 0) (dVar 2)) dNil)) (dCall (on1 lenD) (dCons (dOp oIx (dVar 1) (dVar 2)) dNil))))) (dRet (dC (.bl false))) dNext)
  t_l_rows_alike_L1_1)
def t_l_rows_alike_2  : DSt :=
  (dRet (dOp oEq (dVar 0) (dVar 1)))
def t_l_rows_alike_1  : DSt :=
  (dSeq (dFor (dRange1 (dCons (dCall (on1 lenD) (dCons (dVar 1) dNil)) dNil)) (dgName 2) t_l_rows_alike_L1)
  t_l_rows_alike_2)
def t_l_rows_alike  : DSt :=
  (dSeq (dIfS (dOr (dNot (dB (dCall (on2 isiD) (dCons (dVar 0) (dCons (dC (.ty "list")) dNil))))) (dB (dOp oNe (dCall (on1 lenD) (dCons (dVar 0) dNil)) (dCall (on1 lenD) (dCons (dVar 1) dNil))))) (dRet (dC (.bl false))) dNext)
  t_l_rows_alike_1)
local macro_rules | `(tactic| walk_at "un") => `(tactic| simp only [t_l_rows_alike_2, t_l_rows_alike_1, t_l_rows_alike])
def m_l_rows_alike : FDm := fun ds M Q _ => ∃ (d e : D) (l : List Rw), ds = [d, e] ∧ Vw d (eRows l) M ∧ Vw e (eRows l) M ∧ l.length ≤ 100000 ∧ Q (.bl true) M
theorem len_l_rows_alike : ∀ ds M Q X, m_l_rows_alike ds M Q X → ds.length = 2 := fun ds M Q X ⟨_, _, _, h, _⟩ => by subst h; rfl
theorem nth_eRows {l : List Rw} {k : Nat} {r : Rw} (h : l[k]? = some r) : nth (eRows l) (k : Int) = some (eR r) := by
  rw [nth_nat]
  unfold eRows
  rw [List.getElem?_map, h]
  rfl
theorem read_l_rows_alike : ∀ ds M Q X, m_l_rows_alike ds M Q X → t_l_rows_alike (bodyE Q X) (startD 4 ds) M := by
  rintro ds M Q X ⟨d, e, l, rfl, hv, hw, hl, h⟩
  unfold t_l_rows_alike
  walk_at "dl"
  rw [hv.res]
  walk_at "dl"
  rw [hw.res]
  walk_at "dl"
  simp only [decide_true]
  walk_at "dl"
  unfold t_l_rows_alike_1
  walk_at "dl"
  rw [hw.res]
  walk_at "dl"
  refine ⟨by rw [len_eRows]; omega, by rw [len_eRows]; omega, fun k δ M' => M' = M ∧ ∃ o1 o2 : Option D, δ = [some d, some e, o1, o2], ⟨rfl, _, _, rfl⟩, ?_, ?_⟩
  · rintro k x δ M' hx ⟨rfl, o1, o2, rfl⟩
    refine ⟨trivial, ?_⟩
    obtain ⟨hk, rfl⟩ := rangeD_get hx
    have hk : k < l.length := by rw [len_eRows, Int.toNat_natCast] at hk; exact hk
    have hg := List.getElem?_eq_getElem hk
    generalize l[k] = r at hg
    unfold t_l_rows_alike_L1
    walk_at "dl"
    rw [hv.res, ixR_lst, nth_eRows hg, el_some]
    unfold eR
    walk_at "dl"
    rw [hv.res, ixR_lst, nth_eRows hg, el_some]
    unfold eR
    walk_at "dl"
    rw [hw.res, ixR_lst, nth_eRows hg, el_some]
    unfold eR
    walk_at "dl"
    simp only [decide_true]
    walk_at "dl"
    unfold t_l_rows_alike_L1_1
    walk_at "dl"
    rw [hv.res, ixR_lst, nth_eRows hg, el_some]
    unfold eR
    walk_at "dl"
    refine lc_pure (fun _ => false) id (fun x hx M1 hs Qb q => ?_) (fun x hx hh => by cases hh) ?_
    · obtain ⟨z, hz, rfl⟩ := List.mem_map.mp hx
      walk_at "dl"
      exact q
    · rw [filter_no]
      walk_at "dl"
      refine ⟨rfl, rfl, ?_⟩
      rw [eqv_nil]
      exact ⟨_, _, rfl⟩
  · rintro δ M' ⟨rfl, o1, o2, rfl⟩
    refine ⟨trivial, ?_⟩
    unfold t_l_rows_alike_2
    walk_at "dl"
    rw [hv.eqS hw, hv.res, hw.res, eqR_none]
    refine ⟨flat_eRows l, flat_eRows l, ?_⟩
    rw [(eqv_eRows l l).mpr rfl]
    exact retD_of h

/-! ### law(_law_script): 0 _law_script, 1 _law_rows, 2 _law_handed, 3 _law_due, 4 _law_row, 5 _law_found, 6 _law_first -/
def t_law_L1_2 (A : Adr) : DSt :=
  (dSet 3 (dOp oAdd (dVar 3) (dC (.str "\n"))))
def t_law_L1_1 (A : Adr) : DSt :=
  (dSeq (dIfS (dB (dOp oEq (dCall (on1 lenD) (dCons (dVar 4) dNil)) (dC (.int 3)))) (dSet 3 (dOp oAdd (dOp oAdd (dVar 3) (dC (.str " "))) (dOp oIx (dVar 4) (dC (.int 2))))) dNext)
  (t_law_L1_2 A))
def t_law_L1 (A : Adr) : DSt :=
  (dSeq (dSet 3 (dOp oAdd (dOp oAdd (dOp oAdd (dVar 3) (dOp oIx (dVar 4) (dC (.int 0)))) (dC (.str " "))) (dOp oIx (dVar 4) (dC (.int 1)))))
  (t_law_L1_1 A))
def t_law_10 (A : Adr) : DSt :=
  (dRet (dAndV (dFn m_l_rows_alike (dCons (dFrz (dFn (m_read A) (dCons (dVar 3) dNil))) (dCons (dVar 1) dNil))) (dOp oEq (dFn m_told (dCons (dVar 1) dNil)) (dVar 3))))
def t_law_9 (A : Adr) : DSt :=
  (dSeq (dExpr (dMet isLst oAppend (dVar 6) (dCons (dTup (dCons (dC (.str "left")) (dCons (dC (.str "b")) dNil))) dNil)))
  (t_law_10 A))
def t_law_8 (A : Adr) : DSt :=
  (dSeq (dIfS (dOr (dB (dOp oNe (dFn m_told (dCons (dVar 2) dNil)) (dOp oAdd (dVar 3) (dC (.str "left a1\n"))))) (dNot (dB (dFn m_l_rows_alike (dCons (dVar 6) (dCons (dVar 1) dNil)))))) (dRet (dC (.bl false))) dNext)
  (t_law_9 A))
def t_law_7 (A : Adr) : DSt :=
  (dSeq (dExpr (dMet isLst oAppend (dVar 2) (dCons (dTup (dCons (dC (.str "left")) (dCons (dC (.str "a1")) dNil))) dNil)))
  (t_law_8 A))
def t_law_6 (A : Adr) : DSt :=
  (dSeq (dSet 6 (dFn (m_read A) (dCons (dVar 3) dNil)))
  (t_law_7 A))
def t_law_5 (A : Adr) : DSt :=
  (dSeq (dIfS (dOr (dNot (dB (dCall (on2 isiD) (dCons (dVar 5) (dCons (dC (.ty "str")) dNil))))) (dOr (dB (dOp oNe (dVar 5) (dVar 3))) (dB (dOp oNe (dVar 2) (dVar 1))))) (dRet (dC (.bl false))) dNext)
  (t_law_6 A))
def t_law_4 (A : Adr) : DSt :=
  (dSeq (dSet 5 (dFn m_told (dCons (dVar 2) dNil)))
  (t_law_5 A))
def t_law_3 (A : Adr) : DSt :=
  (dSeq (dFor (dItems (dVar 1)) (dgName 4) (t_law_L1 A))
  (t_law_4 A))
def t_law_2 (A : Adr) : DSt :=
  (dSeq (dSet 3 (dC (.str "")))
  (t_law_3 A))
def t_law_1 (A : Adr) : DSt :=
  (dSeq (dSet 2 (dCall (on1 listM) (dCons (dVar 1) dNil)))
  (t_law_2 A))
def t_law (A : Adr) : DSt :=
  (dSeq (dSet 1 (dFn m_l_rows_by (dCons (dVar 0) dNil)))
  (t_law_1 A))
local macro_rules | `(tactic| walk_at "un") => `(tactic| simp only [t_law_10, t_law_9, t_law_8, t_law_7, t_law_6, t_law_5, t_law_4, t_law_3, t_law_2, t_law_1, t_law])
abbrev m_law : FDm := mLaw
theorem len_law : ∀ ds M Q X, m_law ds M Q X → ds.length = 1 := fun ds M Q X ⟨ns, h, _⟩ => by subst h; rfl
theorem row_line (r : Rw) : ∃ a b, (r.words = [a, b] ∧ lineOf r = a ++ sp ++ b ++ nl) ∨ ∃ c, r.words = [a, b, c] ∧ lineOf r = a ++ sp ++ b ++ sp ++ c ++ nl := by
  have e2 : ∀ a b : Str, Txt.join sp [a, b] = a ++ sp ++ b := fun a b => by rw [TL.join_eq]; rfl
  have e3 : ∀ a b c : Str, Txt.join sp [a, b, c] = a ++ sp ++ b ++ sp ++ c := fun a b c => by
    rw [TL.join_eq]
    refine TL.ext_tl ?_
    show TL.tl (a ++ sp ++ (b ++ sp ++ c)) = _
    simp only [TL.tl_append, List.append_assoc]
  cases r with
  | came z b => exact ⟨_, _, .inr ⟨_, rfl, by unfold lineOf bodyOf; rw [show (Rw.came z b).words = [_, _, _] from rfl, e3]⟩⟩
  | begins z b => exact ⟨_, _, .inr ⟨_, rfl, by unfold lineOf bodyOf; rw [show (Rw.begins z b).words = [_, _, _] from rfl, e3]⟩⟩
  | left z => exact ⟨_, _, .inl ⟨rfl, by unfold lineOf bodyOf; rw [show (Rw.left z).words = [_, _] from rfl, e2]⟩⟩
  | asked z => exact ⟨_, _, .inl ⟨rfl, by unfold lineOf bodyOf; rw [show (Rw.asked z).words = [_, _] from rfl, e2]⟩⟩
  | eased z => exact ⟨_, _, .inl ⟨rfl, by unfold lineOf bodyOf; rw [show (Rw.eased z).words = [_, _] from rfl, e2]⟩⟩
theorem app_assoc (a b c : Str) : a ++ (b ++ c) = a ++ b ++ c := TL.ext_tl (by simp only [TL.tl_append, List.append_assoc])
theorem read_law (A : Adr) : ∀ ds M Q X, m_law ds M Q X → t_law A (bodyE Q X) (startD 7 ds) M := by
  rintro ds M Q X ⟨ns, rfl, _, h⟩
  unfold t_law
  walk_at "dl"
  intro l hn hl
  unfold t_law_1
  walk_at "dl"
  intro a ha
  unfold t_law_2 t_law_3
  walk_at "dl"
  refine ⟨fun k δ M' => M' = M.set a (.lst (eRows l)) ∧ ∃ o : Option D, δ = [some (.scr ns), some (.lst (eRows l)), some (.obj a), some (.str (textOf (l.take k))), o, none, none], ⟨rfl, _, by rw [List.take_zero, text_nil]⟩, ?_, ?_⟩
  · rintro k x δ M' hx ⟨rfl, o, rfl⟩
    refine ⟨trivial, ?_⟩
    unfold eRows at hx
    rw [List.getElem?_map] at hx
    cases e : l[k]? with
    | none => rw [e] at hx; cases hx
    | some r =>
      rw [e] at hx
      cases hx
      have hk := (List.getElem?_eq_some_iff.mp e).1
      have hr : r ∈ l := List.mem_of_getElem? e
      have hnk : ∀ q ∈ l.take k, nameOk q.name = true := fun q hq => hn q (List.mem_of_mem_take hq)
      have e1 : l.take (k + 1) = l.take k ++ [r] := by rw [List.take_add_one, e]; rfl
      have ht := text_len hnk
      rw [List.length_take, Nat.min_eq_left (by omega)] at ht
      have hb := line_len (hn r hr)
      have e2 : textOf (l.take (k + 1)) = textOf (l.take k) ++ lineOf r := by rw [e1, text_app]
      obtain ⟨b, c, ⟨hw, hs⟩ | ⟨d, hw, hs⟩⟩ := row_line r
      · rw [hs] at hb e2
        unfold t_law_L1 t_law_L1_1 t_law_L1_2 eR
        rw [hw]
        walk_at "dl"
        rw [show Str.ofString " " = sp from rfl, show Str.ofString "\n" = nl from rfl]
        simp only [len_append, sp_len, nl_len] at hb ⊢
        have sl : sizeLine = 16777216 := sizeLine_eq
        refine ⟨by omega, by omega, by omega, cond_dec (fun h => absurd h (by show ¬ (2 : Int) = 3; decide)) fun _ => ⟨by omega, some (.tup [.str b, .str c]), ?_⟩⟩
        rw [e2]
        simp only [app_assoc]
      · rw [hs] at hb e2
        unfold t_law_L1 t_law_L1_1 t_law_L1_2 eR
        rw [hw]
        walk_at "dl"
        rw [show Str.ofString " " = sp from rfl, show Str.ofString "\n" = nl from rfl]
        simp only [len_append, sp_len, nl_len] at hb ⊢
        have sl : sizeLine = 16777216 := sizeLine_eq
        refine ⟨by omega, by omega, by omega, cond_dec (fun _ => ⟨by omega, by omega, by omega, some (.tup [.str b, .str c, .str d]), ?_⟩) fun h => absurd (show (3 : Int) = 3 from rfl) h⟩
        rw [e2]
        simp only [app_assoc]
  · rintro δ M' ⟨rfl, o, rfl⟩
    refine ⟨trivial, ?_⟩
    rw [len_eRows, List.take_length]
    unfold t_law_4
    walk_at "dl"
    refine ⟨_, l, rfl, .obj Mem.set_same, hn, by omega, ?_⟩
    unfold t_law_5
    walk_at "dl"
    simp only [decide_true]
    walk_at "dl"
    refine ⟨flat_eRows l, flat_eRows l, ?_⟩
    rw [(eqv_eRows l l).mpr rfl]
    walk_at "dl"
    unfold t_law_6
    walk_at "dl"
    refine ⟨l, rfl, hn, by omega, fun p hp => ?_⟩
    have hpa : p ≠ a := fun e => by
      subst e
      rw [Mem.set_same] at hp
      cases hp
    unfold t_law_7
    walk_at "dl"
    have e1 : (M.set a (.lst (eRows l))).set p (.lst (eRows l)) a = some (.lst (eRows l)) := by rw [Mem.set_ne hpa.symm, Mem.set_same]
    rw [res_obj e1, e1]
    walk_at "dl"
    refine ⟨by rw [len_eRows, sizeLine_eq]; omega, ?_⟩
    have e2 : eRows l ++ [D.tup [D.str (Str.ofString "left"), D.str (Str.ofString "a1")]] = eRows (l ++ [.left (Str.ofString "a1")]) := by rw [eRows_app]; rfl
    rw [e2, Mem.set_comm hpa.symm, Mem.set_set]
    unfold t_law_8
    walk_at "dl"
    have n1 : nameOk (Rw.left (Str.ofString "a1")).name = true := by decide +kernel
    have n2 : lineOf (.left (Str.ofString "a1")) = Str.ofString "left a1\n" := by decide +kernel
    have n3 : (Str.ofString "left a1\n").length ≤ 40 := by decide +kernel
    have n4 := text_len hn
    have hn2 : ∀ r ∈ l ++ [.left (Str.ofString "a1")], nameOk r.name = true := fun r hr => by
      rcases List.mem_append.mp hr with q | q
      · exact hn r q
      · rw [List.mem_singleton.mp q]; exact n1
    have e3 : (M.set p (.lst (eRows l))).set a (.lst (eRows (l ++ [.left (Str.ofString "a1")]))) p = some (.lst (eRows l)) := by rw [Mem.set_ne hpa, Mem.set_same]
    refine ⟨_, _, rfl, .obj Mem.set_same, hn2, by rw [List.length_append]; show _ + 1 ≤ _; omega, ?_⟩
    refine ⟨by rw [sizeLine_eq]; omega, ?_⟩
    rw [text_app, n2]
    walk_at "dl"
    simp only [decide_true]
    walk_at "dl"
    refine ⟨_, _, l, rfl, .obj e3, .lst _ _, by omega, ?_⟩
    walk_at "dl"
    unfold t_law_9
    walk_at "dl"
    rw [res_obj e3, e3]
    walk_at "dl"
    refine ⟨by rw [len_eRows, sizeLine_eq]; omega, ?_⟩
    unfold t_law_10
    walk_at "dl"
    refine ⟨l, rfl, hn, by omega, fun q hq => ?_⟩
    walk_at "dl"
    rw [Mem.del_set hq]
    refine ⟨_, _, l, rfl, .lst _ _, .lst _ _, by omega, ?_⟩
    walk_at "dl"
    refine ⟨_, l, rfl, .lst _ _, hn, by omega, ?_⟩
    walk_at "dl"
    simp only [decide_true]
    exact retD_of (h _)

end My
namespace My
open PySem PySem.Spec PyProof.Rows L2 DL
def topS (i : Nat) : Stmt := PySem.Challenge.pw_readwriteroom_k11_told_and_read.main.body.getD i (.Pass ⟨0, 0, 0, 0⟩)
structure Txt (K : PySem.W.Frag) (mg : Str → Option Value) (A : Adr) : Prop where
  zero : True
  b_int : mg "int" = none
  b_isinstance : mg "isinstance" = none
  b_len : mg "len" = none
  b_list : mg "list" = none
  b_range : mg "range" = none
  b_str : mg "str" = none
  b_tuple : mg "tuple" = none
  mg_LONGEST : ∃ u, mg "LONGEST" = some u ∧ RelV (.int 12) u
  mg_SIGNS : ∃ u, mg "SIGNS" = some u ∧ RelV (.str "abcdefghijklmnopqrstuvwxyz0123456789") u
  mg_BadText : mg "BadText" = some (.ref A.BadText)
  x_BadText : PySem.W.excIn K A.BadText [.type "ValueError", .type "Exception", .type "BaseException", .type "object"] "ValueError.__new__" = true
  k_BadText : PySem.W.keepIn K (.ref A.BadText) = true
  s_BadText : PySem.W.subIn K (.ref A.BadText) (.type "BaseException") = some true
  t_BadText : PySem.W.typeIn K (.ref A.BadText) = some (.type "type")
section
variable {P : Program} {w : World} {K : PySem.W.Frag} {mg : Str → Option Value} {base : Heap} {A : Adr}
abbrev s_l_cell_at : Stmt := topS 13
abbrev n_l_cell_at : List Str := ["_law_script", "_law_k"]
theorem sc_l_cell_at : FnScope n_l_cell_at ["_law_script", "_law_k"] (defScope s_l_cell_at) := ⟨rfl, rfl, rfl, by decide +kernel, rfl, by decide +kernel, by decide +kernel⟩
theorem ok_l_cell_at {f : Addr} {fd : FuncData} (F : Fun K "_law_cell_at" "_law_cell_at" s_l_cell_at f fd) (T : Txt K mg A)  : FnD P w K mg base 1 f fd ["_law_script", "_law_k"] m_l_cell_at := by
  refine DL.okD (N := n_l_cell_at) F sc_l_cell_at len_l_cell_at (by decide) (fun cdv Ar outer s H E hr => ?_) read_l_cell_at
  have hu := hu_of hr
  have hw := hr.units
  have nd := sc_l_cell_at.nd
  have tk : Takes (cxOf (L2.CX P w) P w K mg base n_l_cell_at "_law_cell_at" (defScope s_l_cell_at) f cdv Ar outer s H E) (WE0 E) := takes_of rfl rfl rfl rfl
  have hp : PassesOwn (model P w) (Ar.deeper (envOfC "_law_cell_at" (defScope s_l_cell_at) s.heap.objs.size f cdv)) (envOfC "_law_cell_at" (defScope s_l_cell_at) s.heap.objs.size f cdv) (cxOf (L2.CX P w) P w K mg base n_l_cell_at "_law_cell_at" (defScope s_l_cell_at) f cdv Ar outer s H E).xe := passes_of (X := cxOf (L2.CX P w) P w K mg base n_l_cell_at "_law_cell_at" (defScope s_l_cell_at) f cdv Ar outer s H E) rfl
  exact (pdss_cons (pds_if (pdt_lt (pd_v 1) (pd_callB call_len l_len rfl T.b_len (by decide +kernel) (pda_cons (pd_v 0) pda_nil))) (pdss_one (pds_ret (pd_ix hu (pd_v 0) (pd_v 1)))) pdss_nil)
      (pdss_one (pds_ret pd_int)))
abbrev s_l_people : Stmt := topS 14
abbrev n_l_people : List Str := ["_law_cell", "_law_many", "_law_some", "_law_head", "_law_rest", "_law_k", "_law_way", "_law_left", "_law_right"]
theorem sc_l_people : FnScope n_l_people ["_law_cell", "_law_many"] (defScope s_l_people) := ⟨rfl, rfl, rfl, by decide +kernel, rfl, by decide +kernel, by decide +kernel⟩
theorem ok_l_people {f : Addr} {fd : FuncData} (F : Fun K "_law_people" "_law_people" s_l_people f fd) (T : Txt K mg A)  : FnD P w K mg base 1 f fd ["_law_cell", "_law_many"] m_l_people := by
  refine DL.okD (N := n_l_people) F sc_l_people len_l_people (by decide) (fun cdv Ar outer s H E hr => ?_) read_l_people
  have hu := hu_of hr
  have hw := hr.units
  have nd := sc_l_people.nd
  have tk : Takes (cxOf (L2.CX P w) P w K mg base n_l_people "_law_people" (defScope s_l_people) f cdv Ar outer s H E) (WE0 E) := takes_of rfl rfl rfl rfl
  have hp : PassesOwn (model P w) (Ar.deeper (envOfC "_law_people" (defScope s_l_people) s.heap.objs.size f cdv)) (envOfC "_law_people" (defScope s_l_people) s.heap.objs.size f cdv) (cxOf (L2.CX P w) P w K mg base n_l_people "_law_people" (defScope s_l_people) f cdv Ar outer s H E).xe := passes_of (X := cxOf (L2.CX P w) P w K mg base n_l_people "_law_people" (defScope s_l_people) f cdv Ar outer s H E) rfl
  exact (pdss_cons (pds_set (i := 2) nd rfl (Or.inr rfl) (pd_str (by decide +kernel)))
      (pdss_cons (pds_set (i := 3) nd rfl (Or.inr rfl) (pd_str (by decide +kernel)))
      (pdss_cons (pds_set (i := 4) nd rfl (Or.inl rfl) (pd_div (pd_v 0) pd_int))
      (pdss_cons (pds_for hp rfl (pdi_range1 rfl T.b_range (pda_cons pd_int pda_nil)) (pdg_name (i := 5) nd rfl (Or.inl rfl)) (pdss_cons (pds_set (i := 3) nd rfl (Or.inr rfl) (pd_add (pd_v 3) (pd_ix hu (pd_v 2) (pd_mod (pd_v 4) pd_int))))
      (pdss_one (pds_set (i := 4) nd rfl (Or.inl rfl) (pd_div (pd_v 4) pd_int)))))
      (pdss_cons (pds_set (i := 6) nd rfl (Or.inl rfl) (pd_mod (pd_v 0) pd_int))
      (pdss_cons (pds_if (pdt_w (pdw_and (pdt_eq hw (pd_v 6) pd_int) (pdw_and1 (pdt_lt (pd_v 1) pd_int)))) (pdss_one (pds_ret (pd_lc rfl nd (pdi_range1 rfl T.b_range (pda_cons (pd_v 1) pda_nil)) (blkOk_by (own := [("_law_k", 5)]) (N := n_l_people) (sc := defScope s_l_people) (by decide +kernel)) (fun _ _ _ _ _ => pg_name (i := 5) nd rfl (Or.inl rfl)) (fun _ _ _ _ _ => pdts_nil) (fun _ _ _ _ _ => (pd_slice (pd_v 3) pdo_none (pdo_some (pd_add (pd_v 5) pd_int))))))) pdss_nil)
      (pdss_cons (pds_if (pdt_w (pdw_and (pdt_eq hw (pd_v 6) pd_int) (pdw_and1 (pdt_lt (pd_v 1) pd_int)))) (pdss_one (pds_ret (pd_lc rfl nd (pdi_range1 rfl T.b_range (pda_cons (pd_v 1) pda_nil)) (blkOk_by (own := [("_law_k", 5)]) (N := n_l_people) (sc := defScope s_l_people) (by decide +kernel)) (fun _ _ _ _ _ => pg_name (i := 5) nd rfl (Or.inl rfl)) (fun _ _ _ _ _ => pdts_nil) (fun _ _ _ _ _ => (pd_slice (pd_v 3) (pdo_some (pd_sub pd_int (pd_v 5))) pdo_none))))) pdss_nil)
      (pdss_cons (pds_set (i := 3) nd rfl (Or.inr rfl) (pd_slice (pd_v 3) pdo_none (pdo_some (pd_mod (pd_div (pd_v 0) pd_int) pd_int))))
      (pdss_cons (pds_if (pdt_w (pdw_and (pdt_lt (pd_v 6) pd_int) (pdw_and1 (pdt_lt (pd_v 1) pd_int)))) (pdss_cons (pds_set (i := 7) nd rfl (Or.inr rfl) (pd_slice (pd_v 3) pdo_none (pdo_some (pd_mod (pd_div (pd_v 0) pd_int) (pd_add (pd_callB call_len l_len rfl T.b_len (by decide +kernel) (pda_cons (pd_v 3) pda_nil)) pd_int)))))
      (pdss_cons (pds_set (i := 8) nd rfl (Or.inr rfl) (pd_slice (pd_v 3) (pdo_some (pd_callB call_len l_len rfl T.b_len (by decide +kernel) (pda_cons (pd_v 7) pda_nil))) pdo_none))
      (pdss_one (pds_ret (pd_lc rfl nd (pdi_range1 rfl T.b_range (pda_cons (pd_v 1) pda_nil)) (blkOk_by (own := [("_law_k", 5)]) (N := n_l_people) (sc := defScope s_l_people) (by decide +kernel)) (fun _ _ _ _ _ => pg_name (i := 5) nd rfl (Or.inl rfl)) (fun _ _ _ _ _ => pdts_nil) (fun _ _ _ _ _ => (pd_add (pd_add (pd_v 7) (pd_ix hu (pd_v 2) (pd_mod (pd_add (pd_div (pd_v 0) pd_int) (pd_mul pd_int (pd_v 5))) pd_int))) (pd_v 8)))))))) pdss_nil)
      (pdss_cons (pds_set (i := 3) nd rfl (Or.inr rfl) (pd_slice (pd_v 3) pdo_none (pdo_some (pd_sub pd_int (pd_callTy call_int1 l_int1 rfl T.b_int (by decide +kernel) (pda_cons (pd_gt (pd_v 1) pd_int) pda_nil))))))
      (pdss_one (pds_ret (pd_lc rfl nd (pdi_range1 rfl T.b_range (pda_cons (pd_v 1) pda_nil)) (blkOk_by (own := [("_law_k", 5)]) (N := n_l_people) (sc := defScope s_l_people) (by decide +kernel)) (fun _ _ _ _ _ => pg_name (i := 5) nd rfl (Or.inl rfl)) (fun _ _ _ _ _ => pdts_nil) (fun _ _ _ _ _ => (pd_add (pd_v 3) (pd_callTy call_str_int l_str1 rfl T.b_str (by decide +kernel) (pda_cons (pd_v 5) pda_nil)))))))))))))))))
abbrev s_l_wish_by : Stmt := topS 15
abbrev n_l_wish_by : List Str := ["_law_cell"]
theorem sc_l_wish_by : FnScope n_l_wish_by ["_law_cell"] (defScope s_l_wish_by) := ⟨rfl, rfl, rfl, by decide +kernel, rfl, by decide +kernel, by decide +kernel⟩
theorem ok_l_wish_by {f : Addr} {fd : FuncData} (F : Fun K "_law_wish_by" "_law_wish_by" s_l_wish_by f fd) (T : Txt K mg A)  : FnD P w K mg base 1 f fd ["_law_cell"] m_l_wish_by := by
  refine DL.okD (N := n_l_wish_by) F sc_l_wish_by len_l_wish_by (by decide) (fun cdv Ar outer s H E hr => ?_) read_l_wish_by
  have hu := hu_of hr
  have hw := hr.units
  have nd := sc_l_wish_by.nd
  have tk : Takes (cxOf (L2.CX P w) P w K mg base n_l_wish_by "_law_wish_by" (defScope s_l_wish_by) f cdv Ar outer s H E) (WE0 E) := takes_of rfl rfl rfl rfl
  have hp : PassesOwn (model P w) (Ar.deeper (envOfC "_law_wish_by" (defScope s_l_wish_by) s.heap.objs.size f cdv)) (envOfC "_law_wish_by" (defScope s_l_wish_by) s.heap.objs.size f cdv) (cxOf (L2.CX P w) P w K mg base n_l_wish_by "_law_wish_by" (defScope s_l_wish_by) f cdv Ar outer s H E).xe := passes_of (X := cxOf (L2.CX P w) P w K mg base n_l_wish_by "_law_wish_by" (defScope s_l_wish_by) f cdv Ar outer s H E) rfl
  exact (pdss_cons (pds_if (pdt_eq hw (pd_mod (pd_v 0) pd_int) pd_int) (pdss_one (pds_ret (pd_str (by decide +kernel)))) pdss_nil)
      (pdss_one (pds_ret (pd_str (by decide +kernel)))))
abbrev s_l_rows_by : Stmt := topS 17
abbrev n_l_rows_by : List Str := ["_law_script", "_law_many", "_law_people_here", "_law_rows", "_law_k", "_law_cell", "_law_who", "_law_word"]
theorem sc_l_rows_by : FnScope n_l_rows_by ["_law_script"] (defScope s_l_rows_by) := ⟨rfl, rfl, rfl, by decide +kernel, rfl, by decide +kernel, by decide +kernel⟩
theorem ok_l_rows_by {f : Addr} {fd : FuncData} (F : Fun K "_law_rows_by" "_law_rows_by" s_l_rows_by f fd) (T : Txt K mg A) (h_l_cell_at : Has P w K mg base "_law_cell_at" ["_law_script", "_law_k"] 1 m_l_cell_at) (h_l_people : Has P w K mg base "_law_people" ["_law_cell", "_law_many"] 1 m_l_people) (h_l_wish_by : Has P w K mg base "_law_wish_by" ["_law_cell"] 1 m_l_wish_by) : FnD P w K mg base 2 f fd ["_law_script"] m_l_rows_by := by
  refine DL.okD (N := n_l_rows_by) F sc_l_rows_by len_l_rows_by (by decide) (fun cdv Ar outer s H E hr => ?_) read_l_rows_by
  have hu := hu_of hr
  have hw := hr.units
  have nd := sc_l_rows_by.nd
  have tk : Takes (cxOf (L2.CX P w) P w K mg base n_l_rows_by "_law_rows_by" (defScope s_l_rows_by) f cdv Ar outer s H E) (WE0 E) := takes_of rfl rfl rfl rfl
  have hp : PassesOwn (model P w) (Ar.deeper (envOfC "_law_rows_by" (defScope s_l_rows_by) s.heap.objs.size f cdv)) (envOfC "_law_rows_by" (defScope s_l_rows_by) s.heap.objs.size f cdv) (cxOf (L2.CX P w) P w K mg base n_l_rows_by "_law_rows_by" (defScope s_l_rows_by) f cdv Ar outer s H E).xe := passes_of (X := cxOf (L2.CX P w) P w K mg base n_l_rows_by "_law_rows_by" (defScope s_l_rows_by) f cdv Ar outer s H E) rfl
  exact (pdss_cons (pds_set (i := 1) nd rfl (Or.inl rfl) (pd_mod (pd_callH tk h_l_cell_at (hr.mono (by decide)) rfl (pda_cons (pd_v 0) (pda_cons pd_int pda_nil))) pd_int))
      (pdss_cons (pds_if (pdt_eq hw (pd_mod (pd_div (pd_callH tk h_l_cell_at (hr.mono (by decide)) rfl (pda_cons (pd_v 0) (pda_cons pd_int pda_nil))) pd_int) pd_int) pd_int) (pdss_one (pds_set (i := 1) nd rfl (Or.inl rfl) (pd_mod (pd_div (pd_callH tk h_l_cell_at (hr.mono (by decide)) rfl (pda_cons (pd_v 0) (pda_cons pd_int pda_nil))) pd_int) pd_int))) pdss_nil)
      (pdss_cons (pds_if (pdt_eq hw (pd_mod (pd_div (pd_callH tk h_l_cell_at (hr.mono (by decide)) rfl (pda_cons (pd_v 0) (pda_cons pd_int pda_nil))) pd_int) pd_int) pd_int) (pdss_one (pds_set (i := 1) nd rfl (Or.inl rfl) pd_int)) pdss_nil)
      (pdss_cons (pds_set (i := 2) nd rfl (Or.inl rfl) (pd_callH tk h_l_people (hr.mono (by decide)) rfl (pda_cons (pd_callH tk h_l_cell_at (hr.mono (by decide)) rfl (pda_cons (pd_v 0) (pda_cons pd_int pda_nil))) (pda_cons pd_int pda_nil))))
      (pdss_cons (pds_set (i := 3) nd rfl (Or.inl rfl) (pd_lstM pda_nil))
      (pdss_cons (pds_for hp rfl (pdi_range1 rfl T.b_range (pda_cons (pd_v 1) pda_nil)) (pdg_name (i := 4) nd rfl (Or.inl rfl)) (pdss_cons (pds_set (i := 5) nd rfl (Or.inl rfl) (pd_add (pd_callH tk h_l_cell_at (hr.mono (by decide)) rfl (pda_cons (pd_v 0) (pda_cons (pd_add pd_int (pd_mod (pd_v 4) pd_int)) pda_nil))) (pd_div (pd_v 4) pd_int)))
      (pdss_cons (pds_set (i := 6) nd rfl (Or.inl rfl) (pd_ix hu (pd_v 2) (pd_mod (pd_div (pd_v 5) pd_int) pd_int)))
      (pdss_cons (pds_set (i := 7) nd rfl (Or.inl rfl) (pd_ix hu (pd_lst (pda_cons (pd_str (by decide +kernel)) (pda_cons (pd_str (by decide +kernel)) (pda_cons (pd_str (by decide +kernel)) (pda_cons (pd_str (by decide +kernel)) (pda_cons (pd_str (by decide +kernel)) pda_nil)))))) (pd_mod (pd_v 5) pd_int)))
      (pdss_one (pds_if (pdt_lt (pd_mod (pd_v 5) pd_int) pd_int) (pdss_one (pds_expr (pd_bmL PySem.F.plainAttrs_list PySem.F.slot_list_append PySem.F.type_list_append mt_append l_append (pd_v 3) (pda_cons (pd_tup (pda_cons (pd_v 7) (pda_cons (pd_v 6) (pda_cons (pd_callH tk h_l_wish_by (hr.mono (by decide)) rfl (pda_cons (pd_div (pd_v 5) pd_int) pda_nil)) pda_nil)))) pda_nil)))) (pdss_one (pds_expr (pd_bmL PySem.F.plainAttrs_list PySem.F.slot_list_append PySem.F.type_list_append mt_append l_append (pd_v 3) (pda_cons (pd_tup (pda_cons (pd_v 7) (pda_cons (pd_v 6) pda_nil))) pda_nil))))))))))
      (pdss_one (pds_ret (pd_frz (pd_v 3))))))))))
abbrev s_told : Stmt := topS 9
abbrev n_told : List Str := ["rows", "row"]
theorem sc_told : FnScope n_told ["rows"] (defScope s_told) := ⟨rfl, rfl, rfl, by decide +kernel, rfl, by decide +kernel, by decide +kernel⟩
theorem ok_told {f : Addr} {fd : FuncData} (F : Fun K "told" "told" s_told f fd) (T : Txt K mg A)  : FnD P w K mg base 1 f fd ["rows"] m_told := by
  refine DL.okD (N := n_told) F sc_told len_told (by decide) (fun cdv Ar outer s H E hr => ?_) read_told
  have hu := hu_of hr
  have hw := hr.units
  have nd := sc_told.nd
  have tk : Takes (cxOf (L2.CX P w) P w K mg base n_told "told" (defScope s_told) f cdv Ar outer s H E) (WE0 E) := takes_of rfl rfl rfl rfl
  have hp : PassesOwn (model P w) (Ar.deeper (envOfC "told" (defScope s_told) s.heap.objs.size f cdv)) (envOfC "told" (defScope s_told) s.heap.objs.size f cdv) (cxOf (L2.CX P w) P w K mg base n_told "told" (defScope s_told) f cdv Ar outer s H E).xe := passes_of (X := cxOf (L2.CX P w) P w K mg base n_told "told" (defScope s_told) f cdv Ar outer s H E) rfl
  exact (pdss_one (pds_ret (pd_m1 PySem.F.slot_str_join PySem.F.type_str_join mt_join l_join (pd_str (by decide +kernel)) (pd_lc rfl nd (pdi_any (pd_v 0)) (blkOk_by (own := [("row", 1)]) (N := n_told) (sc := defScope s_told) (by decide +kernel)) (fun _ _ _ _ _ => pg_name (i := 1) nd rfl (Or.inl rfl)) (fun _ _ _ _ _ => pdts_nil) (fun _ _ _ _ _ => (pd_add (pd_m1 PySem.F.slot_str_join PySem.F.type_str_join mt_join l_join (pd_str (by decide +kernel)) (pd_v 1)) (pd_str (by decide +kernel))))))))
abbrev s_is_wish : Stmt := topS 7
abbrev n_is_wish : List Str := ["thing"]
theorem sc_is_wish : FnScope n_is_wish ["thing"] (defScope s_is_wish) := ⟨rfl, rfl, rfl, by decide +kernel, rfl, by decide +kernel, by decide +kernel⟩
theorem ok_is_wish {f : Addr} {fd : FuncData} (F : Fun K "is_wish" "is_wish" s_is_wish f fd) (T : Txt K mg A)  : FnD P w K mg base 1 f fd ["thing"] m_is_wish := by
  refine DL.okD (N := n_is_wish) F sc_is_wish len_is_wish (by decide) (fun cdv Ar outer s H E hr => ?_) read_is_wish
  have hu := hu_of hr
  have hw := hr.units
  have nd := sc_is_wish.nd
  have tk : Takes (cxOf (L2.CX P w) P w K mg base n_is_wish "is_wish" (defScope s_is_wish) f cdv Ar outer s H E) (WE0 E) := takes_of rfl rfl rfl rfl
  have hp : PassesOwn (model P w) (Ar.deeper (envOfC "is_wish" (defScope s_is_wish) s.heap.objs.size f cdv)) (envOfC "is_wish" (defScope s_is_wish) s.heap.objs.size f cdv) (cxOf (L2.CX P w) P w K mg base n_is_wish "is_wish" (defScope s_is_wish) f cdv Ar outer s H E).xe := passes_of (X := cxOf (L2.CX P w) P w K mg base n_is_wish "is_wish" (defScope s_is_wish) f cdv Ar outer s H E) rfl
  exact (pdss_one (pds_ret (pd_and (pd_callB call_isi l_isi rfl T.b_isinstance (by decide +kernel) (pda_cons (pd_v 0) (pda_cons (pd_bltn rfl T.b_str (by decide +kernel)) pda_nil))) (pd_one (pd_or (pd_eq hw (pd_v 0) (pd_str (by decide +kernel))) (pd_one (pd_eq hw (pd_v 0) (pd_str (by decide +kernel)))))))))
abbrev s_is_name : Stmt := topS 6
abbrev n_is_name : List Str := ["thing", "sign"]
theorem sc_is_name : FnScope n_is_name ["thing"] (defScope s_is_name) := ⟨rfl, rfl, rfl, by decide +kernel, rfl, by decide +kernel, by decide +kernel⟩
theorem ok_is_name {f : Addr} {fd : FuncData} (F : Fun K "is_name" "is_name" s_is_name f fd) (T : Txt K mg A)  : FnD P w K mg base 1 f fd ["thing"] m_is_name := by
  refine DL.okD (N := n_is_name) F sc_is_name len_is_name (by decide) (fun cdv Ar outer s H E hr => ?_) read_is_name
  have hu := hu_of hr
  have hw := hr.units
  have nd := sc_is_name.nd
  have tk : Takes (cxOf (L2.CX P w) P w K mg base n_is_name "is_name" (defScope s_is_name) f cdv Ar outer s H E) (WE0 E) := takes_of rfl rfl rfl rfl
  have hp : PassesOwn (model P w) (Ar.deeper (envOfC "is_name" (defScope s_is_name) s.heap.objs.size f cdv)) (envOfC "is_name" (defScope s_is_name) s.heap.objs.size f cdv) (cxOf (L2.CX P w) P w K mg base n_is_name "is_name" (defScope s_is_name) f cdv Ar outer s H E).xe := passes_of (X := cxOf (L2.CX P w) P w K mg base n_is_name "is_name" (defScope s_is_name) f cdv Ar outer s H E) rfl
  exact (pdss_cons (pds_if (pdt_w (pdw_or (pdt_not (pdt_val (pd_callB call_isi l_isi rfl T.b_isinstance (by decide +kernel) (pda_cons (pd_v 0) (pda_cons (pd_bltn rfl T.b_str (by decide +kernel)) pda_nil))))) (pdw_or1 (pdt_not (pdt_chain op_le op_le l_cmp l_cmp pd_int (pd_callB call_len l_len rfl T.b_len (by decide +kernel) (pda_cons (pd_v 0) pda_nil)) (pd_globE (v := .int 12) rfl T.mg_LONGEST (fun _ => .int _))))))) (pdss_one (pds_ret pd_bl)) pdss_nil)
      (pdss_cons (pds_for hp rfl (pdi_any (pd_v 0)) (pdg_name (i := 1) nd rfl (Or.inl rfl)) (pdss_one (pds_if (pdt_notIn (pd_v 1) (pd_globE (v := .str "abcdefghijklmnopqrstuvwxyz0123456789") rfl T.mg_SIGNS (fun _ => .str _ (by decide +kernel)))) (pdss_one (pds_ret pd_bl)) pdss_nil)))
      (pdss_one (pds_ret pd_bl))))
abbrev s_read_row : Stmt := topS 10
abbrev n_read_row : List Str := ["line", "words"]
theorem sc_read_row : FnScope n_read_row ["line"] (defScope s_read_row) := ⟨rfl, rfl, rfl, by decide +kernel, rfl, by decide +kernel, by decide +kernel⟩
theorem ok_read_row {f : Addr} {fd : FuncData} (F : Fun K "read_row" "read_row" s_read_row f fd) (T : Txt K mg A) (h_is_wish : Has P w K mg base "is_wish" ["thing"] 1 m_is_wish) (h_is_name : Has P w K mg base "is_name" ["thing"] 1 m_is_name) : FnD P w K mg base 2 f fd ["line"] (m_read_row A) := by
  refine DL.okD (N := n_read_row) F sc_read_row (len_read_row A) (by decide) (fun cdv Ar outer s H E hr => ?_) (read_read_row A)
  have hu := hu_of hr
  have hw := hr.units
  have nd := sc_read_row.nd
  have tk : Takes (cxOf (L2.CX P w) P w K mg base n_read_row "read_row" (defScope s_read_row) f cdv Ar outer s H E) (WE0 E) := takes_of rfl rfl rfl rfl
  have hp : PassesOwn (model P w) (Ar.deeper (envOfC "read_row" (defScope s_read_row) s.heap.objs.size f cdv)) (envOfC "read_row" (defScope s_read_row) s.heap.objs.size f cdv) (cxOf (L2.CX P w) P w K mg base n_read_row "read_row" (defScope s_read_row) f cdv Ar outer s H E).xe := passes_of (X := cxOf (L2.CX P w) P w K mg base n_read_row "read_row" (defScope s_read_row) f cdv Ar outer s H E) rfl
  exact (pdss_cons (pds_set (i := 1) nd rfl (Or.inl rfl) (pd_m1 PySem.F.slot_str_split PySem.F.type_str_split mt_split l_split (pd_v 0) (pd_str (by decide +kernel))))
      (pdss_cons (pds_if (pdt_w (pdw_and (pdt_eq hw (pd_callB call_len l_len rfl T.b_len (by decide +kernel) (pda_cons (pd_v 1) pda_nil)) pd_int) (pdw_and1 (pdt_w (pdw_or (pdt_eq hw (pd_ix hu (pd_v 1) pd_int) (pd_str (by decide +kernel))) (pdw_or1 (pdt_eq hw (pd_ix hu (pd_v 1) pd_int) (pd_str (by decide +kernel))))))))) (pdss_one (pds_if (pdt_w (pdw_and (pdt_val (pd_callH tk h_is_name (hr.mono (by decide)) rfl (pda_cons (pd_ix hu (pd_v 1) pd_int) pda_nil))) (pdw_and1 (pdt_val (pd_callH tk h_is_wish (hr.mono (by decide)) rfl (pda_cons (pd_ix hu (pd_v 1) pd_int) pda_nil)))))) (pdss_one (pds_ret (pd_tup (pda_cons (pd_ix hu (pd_v 1) pd_int) (pda_cons (pd_ix hu (pd_v 1) pd_int) (pda_cons (pd_ix hu (pd_v 1) pd_int) pda_nil)))))) pdss_nil)) pdss_nil)
      (pdss_cons (pds_if (pdt_w (pdw_and (pdt_eq hw (pd_callB call_len l_len rfl T.b_len (by decide +kernel) (pda_cons (pd_v 1) pda_nil)) pd_int) (pdw_and1 (pdt_w (pdw_or (pdt_eq hw (pd_ix hu (pd_v 1) pd_int) (pd_str (by decide +kernel))) (pdw_or (pdt_eq hw (pd_ix hu (pd_v 1) pd_int) (pd_str (by decide +kernel))) (pdw_or1 (pdt_eq hw (pd_ix hu (pd_v 1) pd_int) (pd_str (by decide +kernel)))))))))) (pdss_one (pds_if (pdt_val (pd_callH tk h_is_name (hr.mono (by decide)) rfl (pda_cons (pd_ix hu (pd_v 1) pd_int) pda_nil))) (pdss_one (pds_ret (pd_tup (pda_cons (pd_ix hu (pd_v 1) pd_int) (pda_cons (pd_ix hu (pd_v 1) pd_int) pda_nil))))) pdss_nil)) pdss_nil)
      (pdss_one (pds_raise tk rfl PySem.F.excBase_ValueError T.x_BadText T.mg_BadText T.k_BadText (raises_own T.s_BadText T.t_BadText) rfl)))))
abbrev s_read : Stmt := topS 11
abbrev n_read : List Str := ["text", "lines", "line"]
theorem sc_read : FnScope n_read ["text"] (defScope s_read) := ⟨rfl, rfl, rfl, by decide +kernel, rfl, by decide +kernel, by decide +kernel⟩
theorem ok_read {f : Addr} {fd : FuncData} (F : Fun K "read" "read" s_read f fd) (T : Txt K mg A) (h_read_row : Has P w K mg base "read_row" ["line"] 2 (m_read_row A)) : FnD P w K mg base 3 f fd ["text"] (m_read A) := by
  refine DL.okD (N := n_read) F sc_read (len_read A) (by decide) (fun cdv Ar outer s H E hr => ?_) (read_read A)
  have hu := hu_of hr
  have hw := hr.units
  have nd := sc_read.nd
  have tk : Takes (cxOf (L2.CX P w) P w K mg base n_read "read" (defScope s_read) f cdv Ar outer s H E) (WE0 E) := takes_of rfl rfl rfl rfl
  have hp : PassesOwn (model P w) (Ar.deeper (envOfC "read" (defScope s_read) s.heap.objs.size f cdv)) (envOfC "read" (defScope s_read) s.heap.objs.size f cdv) (cxOf (L2.CX P w) P w K mg base n_read "read" (defScope s_read) f cdv Ar outer s H E).xe := passes_of (X := cxOf (L2.CX P w) P w K mg base n_read "read" (defScope s_read) f cdv Ar outer s H E) rfl
  exact (pdss_cons (pds_if (pdt_not (pdt_val (pd_callB call_isi l_isi rfl T.b_isinstance (by decide +kernel) (pda_cons (pd_v 0) (pda_cons (pd_bltn rfl T.b_str (by decide +kernel)) pda_nil))))) (pdss_one (pds_raise tk rfl PySem.F.excBase_ValueError T.x_BadText T.mg_BadText T.k_BadText (raises_own T.s_BadText T.t_BadText) rfl)) pdss_nil)
      (pdss_cons (pds_set (i := 1) nd rfl (Or.inl rfl) (pd_m1 PySem.F.slot_str_split PySem.F.type_str_split mt_split l_split (pd_v 0) (pd_str (by decide +kernel))))
      (pdss_cons (pds_if (pdt_ne hw (pd_ix hu (pd_v 1) (pd_neg pd_int)) (pd_str (by decide +kernel))) (pdss_one (pds_raise tk rfl PySem.F.excBase_ValueError T.x_BadText T.mg_BadText T.k_BadText (raises_own T.s_BadText T.t_BadText) rfl)) pdss_nil)
      (pdss_one (pds_ret (pd_lcM rfl nd (pdi_any (pd_slice (pd_v 1) pdo_none (pdo_some (pd_neg pd_int)))) (blkOk_by (own := [("line", 2)]) (N := n_read) (sc := defScope s_read) (by decide +kernel)) (fun _ _ _ _ _ => pg_name (i := 2) nd rfl (Or.inl rfl)) (fun _ _ _ _ _ => pdts_nil) (fun _ _ _ _ _ => (pd_callH takes0 h_read_row (hr.mono (by decide)) rfl (pda_cons (pd_v 2) pda_nil)))))))))
abbrev s_l_rows_alike : Stmt := topS 16
abbrev n_l_rows_alike : List Str := ["_law_found", "_law_due", "_law_k", "_law_word"]
theorem sc_l_rows_alike : FnScope n_l_rows_alike ["_law_found", "_law_due"] (defScope s_l_rows_alike) := ⟨rfl, rfl, rfl, by decide +kernel, rfl, by decide +kernel, by decide +kernel⟩
theorem ok_l_rows_alike {f : Addr} {fd : FuncData} (F : Fun K "_law_rows_alike" "_law_rows_alike" s_l_rows_alike f fd) (T : Txt K mg A)  : FnD P w K mg base 1 f fd ["_law_found", "_law_due"] m_l_rows_alike := by
  refine DL.okD (N := n_l_rows_alike) F sc_l_rows_alike len_l_rows_alike (by decide) (fun cdv Ar outer s H E hr => ?_) read_l_rows_alike
  have hu := hu_of hr
  have hw := hr.units
  have nd := sc_l_rows_alike.nd
  have tk : Takes (cxOf (L2.CX P w) P w K mg base n_l_rows_alike "_law_rows_alike" (defScope s_l_rows_alike) f cdv Ar outer s H E) (WE0 E) := takes_of rfl rfl rfl rfl
  have hp : PassesOwn (model P w) (Ar.deeper (envOfC "_law_rows_alike" (defScope s_l_rows_alike) s.heap.objs.size f cdv)) (envOfC "_law_rows_alike" (defScope s_l_rows_alike) s.heap.objs.size f cdv) (cxOf (L2.CX P w) P w K mg base n_l_rows_alike "_law_rows_alike" (defScope s_l_rows_alike) f cdv Ar outer s H E).xe := passes_of (X := cxOf (L2.CX P w) P w K mg base n_l_rows_alike "_law_rows_alike" (defScope s_l_rows_alike) f cdv Ar outer s H E) rfl
  exact (pdss_cons (pds_if (pdt_w (pdw_or (pdt_not (pdt_val (pd_callB call_isi l_isi rfl T.b_isinstance (by decide +kernel) (pda_cons (pd_v 0) (pda_cons (pd_bltn rfl T.b_list (by decide +kernel)) pda_nil))))) (pdw_or1 (pdt_ne hw (pd_callB call_len l_len rfl T.b_len (by decide +kernel) (pda_cons (pd_v 0) pda_nil)) (pd_callB call_len l_len rfl T.b_len (by decide +kernel) (pda_cons (pd_v 1) pda_nil)))))) (pdss_one (pds_ret pd_bl)) pdss_nil)
      (pdss_cons (pds_for hp rfl (pdi_range1 rfl T.b_range (pda_cons (pd_callB call_len l_len rfl T.b_len (by decide +kernel) (pda_cons (pd_v 1) pda_nil)) pda_nil)) (pdg_name (i := 2) nd rfl (Or.inl rfl)) (pdss_cons (pds_if (pdt_w (pdw_or (pdt_not (pdt_val (pd_callB call_isi l_isi rfl T.b_isinstance (by decide +kernel) (pda_cons (pd_ix hu (pd_v 0) (pd_v 2)) (pda_cons (pd_bltn rfl T.b_tuple (by decide +kernel)) pda_nil))))) (pdw_or1 (pdt_ne hw (pd_callB call_len l_len rfl T.b_len (by decide +kernel) (pda_cons (pd_ix hu (pd_v 0) (pd_v 2)) pda_nil)) (pd_callB call_len l_len rfl T.b_len (by decide +kernel) (pda_cons (pd_ix hu (pd_v 1) (pd_v 2)) pda_nil)))))) (pdss_one (pds_ret pd_bl)) pdss_nil)
      (pdss_one (pds_if (pdt_ne hw (pd_lc rfl nd (pdi_any (pd_ix hu (pd_v 0) (pd_v 2))) (blkOk_by (own := [("_law_word", 3)]) (N := n_l_rows_alike) (sc := defScope s_l_rows_alike) (by decide +kernel)) (fun _ _ _ _ _ => pg_name (i := 3) nd rfl (Or.inl rfl)) (fun _ _ _ _ _ => (pdts_one (pdt_not (pdt_val (pd_callB call_isi l_isi rfl T.b_isinstance (by decide +kernel) (pda_cons (pd_v 3) (pda_cons (pd_bltn rfl T.b_str (by decide +kernel)) pda_nil))))))) (fun _ _ _ _ _ => (pd_v 3))) (pd_lst pda_nil)) (pdss_one (pds_ret pd_bl)) pdss_nil))))
      (pdss_one (pds_ret (pd_eq hw (pd_v 0) (pd_v 1))))))
abbrev s_law : Stmt := topS 18
abbrev n_law : List Str := ["_law_script", "_law_rows", "_law_handed", "_law_due", "_law_row", "_law_found", "_law_first"]
theorem sc_law : FnScope n_law ["_law_script"] (defScope s_law) := ⟨rfl, rfl, rfl, by decide +kernel, rfl, by decide +kernel, by decide +kernel⟩
theorem ok_law {f : Addr} {fd : FuncData} (F : Fun K "law" "law" s_law f fd) (T : Txt K mg A) (h_l_rows_by : Has P w K mg base "_law_rows_by" ["_law_script"] 2 m_l_rows_by) (h_told : Has P w K mg base "told" ["rows"] 1 m_told) (h_read : Has P w K mg base "read" ["text"] 3 (m_read A)) (h_l_rows_alike : Has P w K mg base "_law_rows_alike" ["_law_found", "_law_due"] 1 m_l_rows_alike) : FnD P w K mg base 4 f fd ["_law_script"] m_law := by
  refine DL.okD (N := n_law) F sc_law len_law (by decide) (fun cdv Ar outer s H E hr => ?_) (read_law A)
  have hu := hu_of hr
  have hw := hr.units
  have nd := sc_law.nd
  have tk : Takes (cxOf (L2.CX P w) P w K mg base n_law "law" (defScope s_law) f cdv Ar outer s H E) (WE0 E) := takes_of rfl rfl rfl rfl
  have hp : PassesOwn (model P w) (Ar.deeper (envOfC "law" (defScope s_law) s.heap.objs.size f cdv)) (envOfC "law" (defScope s_law) s.heap.objs.size f cdv) (cxOf (L2.CX P w) P w K mg base n_law "law" (defScope s_law) f cdv Ar outer s H E).xe := passes_of (X := cxOf (L2.CX P w) P w K mg base n_law "law" (defScope s_law) f cdv Ar outer s H E) rfl
  exact (pdss_cons (pds_set (i := 1) nd rfl (Or.inl rfl) (pd_callH tk h_l_rows_by (hr.mono (by decide)) rfl (pda_cons (pd_v 0) pda_nil)))
      (pdss_cons (pds_set (i := 2) nd rfl (Or.inl rfl) (pd_callTy call_list_of l_listM rfl T.b_list (by decide +kernel) (pda_cons (pd_v 1) pda_nil)))
      (pdss_cons (pds_set (i := 3) nd rfl (Or.inl rfl) (pd_str (by decide +kernel)))
      (pdss_cons (pds_for hp rfl (pdi_any (pd_v 1)) (pdg_name (i := 4) nd rfl (Or.inl rfl)) (pdss_cons (pds_set (i := 3) nd rfl (Or.inl rfl) (pd_add (pd_add (pd_add (pd_v 3) (pd_ix hu (pd_v 4) pd_int)) (pd_str (by decide +kernel))) (pd_ix hu (pd_v 4) pd_int)))
      (pdss_cons (pds_if (pdt_eq hw (pd_callB call_len l_len rfl T.b_len (by decide +kernel) (pda_cons (pd_v 4) pda_nil)) pd_int) (pdss_one (pds_set (i := 3) nd rfl (Or.inl rfl) (pd_add (pd_add (pd_v 3) (pd_str (by decide +kernel))) (pd_ix hu (pd_v 4) pd_int)))) pdss_nil)
      (pdss_one (pds_set (i := 3) nd rfl (Or.inl rfl) (pd_add (pd_v 3) (pd_str (by decide +kernel))))))))
      (pdss_cons (pds_set (i := 5) nd rfl (Or.inl rfl) (pd_callH tk h_told (hr.mono (by decide)) rfl (pda_cons (pd_v 2) pda_nil)))
      (pdss_cons (pds_if (pdt_w (pdw_or (pdt_not (pdt_val (pd_callB call_isi l_isi rfl T.b_isinstance (by decide +kernel) (pda_cons (pd_v 5) (pda_cons (pd_bltn rfl T.b_str (by decide +kernel)) pda_nil))))) (pdw_or (pdt_ne hw (pd_v 5) (pd_v 3)) (pdw_or1 (pdt_ne hw (pd_v 2) (pd_v 1)))))) (pdss_one (pds_ret pd_bl)) pdss_nil)
      (pdss_cons (pds_set (i := 6) nd rfl (Or.inl rfl) (pd_callH tk h_read (hr.mono (by decide)) rfl (pda_cons (pd_v 3) pda_nil)))
      (pdss_cons (pds_expr (pd_bmL PySem.F.plainAttrs_list PySem.F.slot_list_append PySem.F.type_list_append mt_append l_append (pd_v 2) (pda_cons (pd_tup (pda_cons (pd_str (by decide +kernel)) (pda_cons (pd_str (by decide +kernel)) pda_nil))) pda_nil)))
      (pdss_cons (pds_if (pdt_w (pdw_or (pdt_ne hw (pd_callH tk h_told (hr.mono (by decide)) rfl (pda_cons (pd_v 2) pda_nil)) (pd_add (pd_v 3) (pd_str (by decide +kernel)))) (pdw_or1 (pdt_not (pdt_val (pd_callH tk h_l_rows_alike (hr.mono (by decide)) rfl (pda_cons (pd_v 6) (pda_cons (pd_v 1) pda_nil)))))))) (pdss_one (pds_ret pd_bl)) pdss_nil)
      (pdss_cons (pds_expr (pd_bmL PySem.F.plainAttrs_list PySem.F.slot_list_append PySem.F.type_list_append mt_append l_append (pd_v 6) (pda_cons (pd_tup (pda_cons (pd_str (by decide +kernel)) (pda_cons (pd_str (by decide +kernel)) pda_nil))) pda_nil)))
      (pdss_one (pds_ret (pd_and (pd_callH tk h_l_rows_alike (hr.mono (by decide)) rfl (pda_cons (pd_frz (pd_callH tk h_read (hr.mono (by decide)) rfl (pda_cons (pd_v 3) pda_nil))) (pda_cons (pd_v 1) pda_nil))) (pd_one (pd_eq hw (pd_callH tk h_told (hr.mono (by decide)) rfl (pda_cons (pd_v 1) pda_nil)) (pd_v 3))))))))))))))))
end
theorem all_mk {P : Program} {w : World} {K : PySem.W.Frag} {h : Heap} {mg : Str → Option Value} {fa : Addr} {CBadText : Addr} {tk_LONGEST : Tok} {tk_SIGNS : Tok} {f_l_cell_at : Addr} {oc_l_cell_at kV_l_cell_at dc_l_cell_at pm_l_cell_at cd_l_cell_at ct_l_cell_at : Value} {od_l_cell_at an_l_cell_at : Option Addr} {sl_l_cell_at : Array (Option Value)} {f_l_people : Addr} {oc_l_people kV_l_people dc_l_people pm_l_people cd_l_people ct_l_people : Value} {od_l_people an_l_people : Option Addr} {sl_l_people : Array (Option Value)} {f_l_wish_by : Addr} {oc_l_wish_by kV_l_wish_by dc_l_wish_by pm_l_wish_by cd_l_wish_by ct_l_wish_by : Value} {od_l_wish_by an_l_wish_by : Option Addr} {sl_l_wish_by : Array (Option Value)} {f_l_rows_by : Addr} {oc_l_rows_by kV_l_rows_by dc_l_rows_by pm_l_rows_by cd_l_rows_by ct_l_rows_by : Value} {od_l_rows_by an_l_rows_by : Option Addr} {sl_l_rows_by : Array (Option Value)} {f_told : Addr} {oc_told kV_told dc_told pm_told cd_told ct_told : Value} {od_told an_told : Option Addr} {sl_told : Array (Option Value)} {f_is_wish : Addr} {oc_is_wish kV_is_wish dc_is_wish pm_is_wish cd_is_wish ct_is_wish : Value} {od_is_wish an_is_wish : Option Addr} {sl_is_wish : Array (Option Value)} {f_is_name : Addr} {oc_is_name kV_is_name dc_is_name pm_is_name cd_is_name ct_is_name : Value} {od_is_name an_is_name : Option Addr} {sl_is_name : Array (Option Value)} {f_read_row : Addr} {oc_read_row kV_read_row dc_read_row pm_read_row cd_read_row ct_read_row : Value} {od_read_row an_read_row : Option Addr} {sl_read_row : Array (Option Value)} {f_read : Addr} {oc_read kV_read dc_read pm_read cd_read ct_read : Value} {od_read an_read : Option Addr} {sl_read : Array (Option Value)} {f_l_rows_alike : Addr} {oc_l_rows_alike kV_l_rows_alike dc_l_rows_alike pm_l_rows_alike cd_l_rows_alike ct_l_rows_alike : Value} {od_l_rows_alike an_l_rows_alike : Option Addr} {sl_l_rows_alike : Array (Option Value)} {f_law : Addr} {oc_law kV_law dc_law pm_law cd_law ct_law : Value} {od_law an_law : Option Addr} {sl_law : Array (Option Value)} (X : K.In h) (G : h.Ns mainGlobals mg) (hfa : mg "law" = some (.ref fa))
    (aCBadText : PySem.W.nsIn K mainGlobals "BadText" = some (some (.ref CBadText)))
    (x_BadText : PySem.W.excIn K CBadText [.type "ValueError", .type "Exception", .type "BaseException", .type "object"] "ValueError.__new__" = true)
    (k_BadText : PySem.W.keepIn K (.ref CBadText) = true)
    (s_BadText : PySem.W.subIn K (.ref CBadText) (.type "BaseException") = some true)
    (t_BadText : PySem.W.typeIn K (.ref CBadText) = some (.type "type"))
    (z_int : PySem.W.nsIn K mainGlobals "int" = some none)
    (z_isinstance : PySem.W.nsIn K mainGlobals "isinstance" = some none)
    (z_len : PySem.W.nsIn K mainGlobals "len" = some none)
    (z_list : PySem.W.nsIn K mainGlobals "list" = some none)
    (z_range : PySem.W.nsIn K mainGlobals "range" = some none)
    (z_str : PySem.W.nsIn K mainGlobals "str" = some none)
    (z_tuple : PySem.W.nsIn K mainGlobals "tuple" = some none)
    (v_LONGEST : PySem.W.nsIn K mainGlobals "LONGEST" = some (some (.int 12 tk_LONGEST)))
    (v_SIGNS : PySem.W.nsIn K mainGlobals "SIGNS" = some (some (.str "abcdefghijklmnopqrstuvwxyz0123456789" tk_SIGNS)))
    (a_l_cell_at : PySem.W.nsIn K mainGlobals "_law_cell_at" = some (some (.ref f_l_cell_at)))
    (l_l_cell_at : K.lookup f_l_cell_at = some ⟨oc_l_cell_at, od_l_cell_at, .func (PySem.W.fnOf "_law_cell_at" "_law_cell_at" (defArgs s_l_cell_at) (defBody s_l_cell_at) (defScope s_l_cell_at) .none kV_l_cell_at dc_l_cell_at pm_l_cell_at an_l_cell_at cd_l_cell_at ct_l_cell_at), sl_l_cell_at⟩)
    (c_l_cell_at : PySem.W.codeIn K cd_l_cell_at "_law_cell_at" = true)
    (kf_l_cell_at : PySem.W.keepIn K (.ref f_l_cell_at) = true)
    (a_l_people : PySem.W.nsIn K mainGlobals "_law_people" = some (some (.ref f_l_people)))
    (l_l_people : K.lookup f_l_people = some ⟨oc_l_people, od_l_people, .func (PySem.W.fnOf "_law_people" "_law_people" (defArgs s_l_people) (defBody s_l_people) (defScope s_l_people) .none kV_l_people dc_l_people pm_l_people an_l_people cd_l_people ct_l_people), sl_l_people⟩)
    (c_l_people : PySem.W.codeIn K cd_l_people "_law_people" = true)
    (kf_l_people : PySem.W.keepIn K (.ref f_l_people) = true)
    (a_l_wish_by : PySem.W.nsIn K mainGlobals "_law_wish_by" = some (some (.ref f_l_wish_by)))
    (l_l_wish_by : K.lookup f_l_wish_by = some ⟨oc_l_wish_by, od_l_wish_by, .func (PySem.W.fnOf "_law_wish_by" "_law_wish_by" (defArgs s_l_wish_by) (defBody s_l_wish_by) (defScope s_l_wish_by) .none kV_l_wish_by dc_l_wish_by pm_l_wish_by an_l_wish_by cd_l_wish_by ct_l_wish_by), sl_l_wish_by⟩)
    (c_l_wish_by : PySem.W.codeIn K cd_l_wish_by "_law_wish_by" = true)
    (kf_l_wish_by : PySem.W.keepIn K (.ref f_l_wish_by) = true)
    (a_l_rows_by : PySem.W.nsIn K mainGlobals "_law_rows_by" = some (some (.ref f_l_rows_by)))
    (l_l_rows_by : K.lookup f_l_rows_by = some ⟨oc_l_rows_by, od_l_rows_by, .func (PySem.W.fnOf "_law_rows_by" "_law_rows_by" (defArgs s_l_rows_by) (defBody s_l_rows_by) (defScope s_l_rows_by) .none kV_l_rows_by dc_l_rows_by pm_l_rows_by an_l_rows_by cd_l_rows_by ct_l_rows_by), sl_l_rows_by⟩)
    (c_l_rows_by : PySem.W.codeIn K cd_l_rows_by "_law_rows_by" = true)
    (kf_l_rows_by : PySem.W.keepIn K (.ref f_l_rows_by) = true)
    (a_told : PySem.W.nsIn K mainGlobals "told" = some (some (.ref f_told)))
    (l_told : K.lookup f_told = some ⟨oc_told, od_told, .func (PySem.W.fnOf "told" "told" (defArgs s_told) (defBody s_told) (defScope s_told) .none kV_told dc_told pm_told an_told cd_told ct_told), sl_told⟩)
    (c_told : PySem.W.codeIn K cd_told "told" = true)
    (kf_told : PySem.W.keepIn K (.ref f_told) = true)
    (a_is_wish : PySem.W.nsIn K mainGlobals "is_wish" = some (some (.ref f_is_wish)))
    (l_is_wish : K.lookup f_is_wish = some ⟨oc_is_wish, od_is_wish, .func (PySem.W.fnOf "is_wish" "is_wish" (defArgs s_is_wish) (defBody s_is_wish) (defScope s_is_wish) .none kV_is_wish dc_is_wish pm_is_wish an_is_wish cd_is_wish ct_is_wish), sl_is_wish⟩)
    (c_is_wish : PySem.W.codeIn K cd_is_wish "is_wish" = true)
    (kf_is_wish : PySem.W.keepIn K (.ref f_is_wish) = true)
    (a_is_name : PySem.W.nsIn K mainGlobals "is_name" = some (some (.ref f_is_name)))
    (l_is_name : K.lookup f_is_name = some ⟨oc_is_name, od_is_name, .func (PySem.W.fnOf "is_name" "is_name" (defArgs s_is_name) (defBody s_is_name) (defScope s_is_name) .none kV_is_name dc_is_name pm_is_name an_is_name cd_is_name ct_is_name), sl_is_name⟩)
    (c_is_name : PySem.W.codeIn K cd_is_name "is_name" = true)
    (kf_is_name : PySem.W.keepIn K (.ref f_is_name) = true)
    (a_read_row : PySem.W.nsIn K mainGlobals "read_row" = some (some (.ref f_read_row)))
    (l_read_row : K.lookup f_read_row = some ⟨oc_read_row, od_read_row, .func (PySem.W.fnOf "read_row" "read_row" (defArgs s_read_row) (defBody s_read_row) (defScope s_read_row) .none kV_read_row dc_read_row pm_read_row an_read_row cd_read_row ct_read_row), sl_read_row⟩)
    (c_read_row : PySem.W.codeIn K cd_read_row "read_row" = true)
    (kf_read_row : PySem.W.keepIn K (.ref f_read_row) = true)
    (a_read : PySem.W.nsIn K mainGlobals "read" = some (some (.ref f_read)))
    (l_read : K.lookup f_read = some ⟨oc_read, od_read, .func (PySem.W.fnOf "read" "read" (defArgs s_read) (defBody s_read) (defScope s_read) .none kV_read dc_read pm_read an_read cd_read ct_read), sl_read⟩)
    (c_read : PySem.W.codeIn K cd_read "read" = true)
    (kf_read : PySem.W.keepIn K (.ref f_read) = true)
    (a_l_rows_alike : PySem.W.nsIn K mainGlobals "_law_rows_alike" = some (some (.ref f_l_rows_alike)))
    (l_l_rows_alike : K.lookup f_l_rows_alike = some ⟨oc_l_rows_alike, od_l_rows_alike, .func (PySem.W.fnOf "_law_rows_alike" "_law_rows_alike" (defArgs s_l_rows_alike) (defBody s_l_rows_alike) (defScope s_l_rows_alike) .none kV_l_rows_alike dc_l_rows_alike pm_l_rows_alike an_l_rows_alike cd_l_rows_alike ct_l_rows_alike), sl_l_rows_alike⟩)
    (c_l_rows_alike : PySem.W.codeIn K cd_l_rows_alike "_law_rows_alike" = true)
    (kf_l_rows_alike : PySem.W.keepIn K (.ref f_l_rows_alike) = true)
    (a_law : PySem.W.nsIn K mainGlobals "law" = some (some (.ref f_law)))
    (l_law : K.lookup f_law = some ⟨oc_law, od_law, .func (PySem.W.fnOf "law" "law" (defArgs s_law) (defBody s_law) (defScope s_law) .none kV_law dc_law pm_law an_law cd_law ct_law), sl_law⟩)
    (c_law : PySem.W.codeIn K cd_law "law" = true)
    (kf_law : PySem.W.keepIn K (.ref f_law) = true) :
    ∃ fd : FuncData, (∀ (s : Shared) (v : Value), BindsTo s fd ⟨[v], []⟩ [("_law_script", v)]) ∧ ∀ base : Heap, K.In base → base.Ns mainGlobals mg → FnD P w K mg base 4 fa fd ["_law_script"] mLaw := by
  have e := hfa.symm.trans (PySem.W.mg_of X G a_law)
  cases e
  have T : Txt K mg ⟨0, 0, 0, 0, 0, 0, 0, 0, 0, 0, 0, 0, CBadText, 0⟩ := ⟨trivial, PySem.W.mg_none_of X G z_int, PySem.W.mg_none_of X G z_isinstance, PySem.W.mg_none_of X G z_len, PySem.W.mg_none_of X G z_list, PySem.W.mg_none_of X G z_range, PySem.W.mg_none_of X G z_str, PySem.W.mg_none_of X G z_tuple, ⟨_, PySem.W.mg_of X G v_LONGEST, ⟨_, rfl⟩⟩, ⟨_, PySem.W.mg_of X G v_SIGNS, ⟨_, rfl⟩⟩, PySem.W.mg_of X G aCBadText, x_BadText, k_BadText, s_BadText, t_BadText⟩
  have F_l_cell_at := fun_mk (st := s_l_cell_at) l_l_cell_at c_l_cell_at kf_l_cell_at
  have b_l_cell_at := F_l_cell_at.binds (ps := ["_law_script", "_law_k"]) fun _ _ _ _ _ _ us hl => match us, hl with | [_, _], _ => rfl
  have F_l_people := fun_mk (st := s_l_people) l_l_people c_l_people kf_l_people
  have b_l_people := F_l_people.binds (ps := ["_law_cell", "_law_many"]) fun _ _ _ _ _ _ us hl => match us, hl with | [_, _], _ => rfl
  have F_l_wish_by := fun_mk (st := s_l_wish_by) l_l_wish_by c_l_wish_by kf_l_wish_by
  have b_l_wish_by := F_l_wish_by.binds (ps := ["_law_cell"]) fun _ _ _ _ _ _ us hl => match us, hl with | [_], _ => rfl
  have F_l_rows_by := fun_mk (st := s_l_rows_by) l_l_rows_by c_l_rows_by kf_l_rows_by
  have b_l_rows_by := F_l_rows_by.binds (ps := ["_law_script"]) fun _ _ _ _ _ _ us hl => match us, hl with | [_], _ => rfl
  have F_told := fun_mk (st := s_told) l_told c_told kf_told
  have b_told := F_told.binds (ps := ["rows"]) fun _ _ _ _ _ _ us hl => match us, hl with | [_], _ => rfl
  have F_is_wish := fun_mk (st := s_is_wish) l_is_wish c_is_wish kf_is_wish
  have b_is_wish := F_is_wish.binds (ps := ["thing"]) fun _ _ _ _ _ _ us hl => match us, hl with | [_], _ => rfl
  have F_is_name := fun_mk (st := s_is_name) l_is_name c_is_name kf_is_name
  have b_is_name := F_is_name.binds (ps := ["thing"]) fun _ _ _ _ _ _ us hl => match us, hl with | [_], _ => rfl
  have F_read_row := fun_mk (st := s_read_row) l_read_row c_read_row kf_read_row
  have b_read_row := F_read_row.binds (ps := ["line"]) fun _ _ _ _ _ _ us hl => match us, hl with | [_], _ => rfl
  have F_read := fun_mk (st := s_read) l_read c_read kf_read
  have b_read := F_read.binds (ps := ["text"]) fun _ _ _ _ _ _ us hl => match us, hl with | [_], _ => rfl
  have F_l_rows_alike := fun_mk (st := s_l_rows_alike) l_l_rows_alike c_l_rows_alike kf_l_rows_alike
  have b_l_rows_alike := F_l_rows_alike.binds (ps := ["_law_found", "_law_due"]) fun _ _ _ _ _ _ us hl => match us, hl with | [_, _], _ => rfl
  have F_law := fun_mk (st := s_law) l_law c_law kf_law
  have b_law := F_law.binds (ps := ["_law_script"]) fun _ _ _ _ _ _ us hl => match us, hl with | [_], _ => rfl
  refine ⟨PySem.W.fnOf "law" "law" (defArgs s_law) (defBody s_law) (defScope s_law) .none kV_law dc_law pm_law an_law cd_law ct_law, fun s v => .of_eq rfl, fun base _ _ => ?_⟩
  have h_l_cell_at := (⟨_, _, PySem.W.mg_of X G a_l_cell_at, kf_l_cell_at, b_l_cell_at, ok_l_cell_at F_l_cell_at T⟩ : Has P w K mg base "_law_cell_at" ["_law_script", "_law_k"] 1 m_l_cell_at)
  have h_l_people := (⟨_, _, PySem.W.mg_of X G a_l_people, kf_l_people, b_l_people, ok_l_people F_l_people T⟩ : Has P w K mg base "_law_people" ["_law_cell", "_law_many"] 1 m_l_people)
  have h_l_wish_by := (⟨_, _, PySem.W.mg_of X G a_l_wish_by, kf_l_wish_by, b_l_wish_by, ok_l_wish_by F_l_wish_by T⟩ : Has P w K mg base "_law_wish_by" ["_law_cell"] 1 m_l_wish_by)
  have h_l_rows_by := (⟨_, _, PySem.W.mg_of X G a_l_rows_by, kf_l_rows_by, b_l_rows_by, ok_l_rows_by F_l_rows_by T h_l_cell_at h_l_people h_l_wish_by⟩ : Has P w K mg base "_law_rows_by" ["_law_script"] 2 m_l_rows_by)
  have h_told := (⟨_, _, PySem.W.mg_of X G a_told, kf_told, b_told, ok_told F_told T⟩ : Has P w K mg base "told" ["rows"] 1 m_told)
  have h_is_wish := (⟨_, _, PySem.W.mg_of X G a_is_wish, kf_is_wish, b_is_wish, ok_is_wish F_is_wish T⟩ : Has P w K mg base "is_wish" ["thing"] 1 m_is_wish)
  have h_is_name := (⟨_, _, PySem.W.mg_of X G a_is_name, kf_is_name, b_is_name, ok_is_name F_is_name T⟩ : Has P w K mg base "is_name" ["thing"] 1 m_is_name)
  have h_read_row := (⟨_, _, PySem.W.mg_of X G a_read_row, kf_read_row, b_read_row, ok_read_row F_read_row T h_is_wish h_is_name⟩ : Has P w K mg base "read_row" ["line"] 2 (m_read_row ⟨0, 0, 0, 0, 0, 0, 0, 0, 0, 0, 0, 0, CBadText, 0⟩))
  have h_read := (⟨_, _, PySem.W.mg_of X G a_read, kf_read, b_read, ok_read F_read T h_read_row⟩ : Has P w K mg base "read" ["text"] 3 (m_read ⟨0, 0, 0, 0, 0, 0, 0, 0, 0, 0, 0, 0, CBadText, 0⟩))
  have h_l_rows_alike := (⟨_, _, PySem.W.mg_of X G a_l_rows_alike, kf_l_rows_alike, b_l_rows_alike, ok_l_rows_alike F_l_rows_alike T⟩ : Has P w K mg base "_law_rows_alike" ["_law_found", "_law_due"] 1 m_l_rows_alike)
  exact ok_law F_law T h_l_rows_by h_told h_read h_l_rows_alike
end My
open PySem PySem.W PyProof.Rows
set_option maxRecDepth 100000 in
set_option maxHeartbeats 0 in
theorem PySem.Challenge.cw_readwriteroom_k11_told_and_read_holds : PySem.Challenge.rw_readwriteroom_k11_told_and_read.Holds := by
  w_on; o_law; k_head; (case hw => w_witness2)
  k_fill
  refine DL.walkD (l := PySem.Challenge.rw_readwriteroom_k11_told_and_read) (k := 4) (x := "_law_script") rfl rfl ⟨rfl, by decide, by decide⟩ (fun w h Y => PySem.W.kIn_of Y) ?F
  case F =>
    intro w mg fa h KX G hmg
    refine' My.all_mk KX G hmg ?aCBadText ?x_BadText ?k_BadText ?s_BadText ?t_BadText ?z_int ?z_isinstance ?z_len ?z_list ?z_range ?z_str ?z_tuple ?v_LONGEST ?v_SIGNS ?a_l_cell_at ?l_l_cell_at ?c_l_cell_at ?kf_l_cell_at ?a_l_people ?l_l_people ?c_l_people ?kf_l_people ?a_l_wish_by ?l_l_wish_by ?c_l_wish_by ?kf_l_wish_by ?a_l_rows_by ?l_l_rows_by ?c_l_rows_by ?kf_l_rows_by ?a_told ?l_told ?c_told ?kf_told ?a_is_wish ?l_is_wish ?c_is_wish ?kf_is_wish ?a_is_name ?l_is_name ?c_is_name ?kf_is_name ?a_read_row ?l_read_row ?c_read_row ?kf_read_row ?a_read ?l_read ?c_read ?kf_read ?a_l_rows_alike ?l_l_rows_alike ?c_l_rows_alike ?kf_l_rows_alike ?a_law ?l_law ?c_law ?kf_law
    (case aCBadText => first | k_is | k_exc)
    (case x_BadText => first | k_is | k_exc)
    (case k_BadText => first | k_is | k_exc)
    (case s_BadText => first | k_is | k_exc)
    (case t_BadText => first | k_is | k_exc)
    (case z_int => first | k_is | k_exc)
    (case z_isinstance => first | k_is | k_exc)
    (case z_len => first | k_is | k_exc)
    (case z_list => first | k_is | k_exc)
    (case z_range => first | k_is | k_exc)
    (case z_str => first | k_is | k_exc)
    (case z_tuple => first | k_is | k_exc)
    (case v_LONGEST => first | k_is | k_exc)
    (case v_SIGNS => first | k_is | k_exc)
    (case a_l_cell_at => first | k_is | k_exc)
    (case l_l_cell_at => first | k_is | k_exc)
    (case c_l_cell_at => first | k_is | k_exc)
    (case kf_l_cell_at => first | k_is | k_exc)
    (case a_l_people => first | k_is | k_exc)
    (case l_l_people => first | k_is | k_exc)
    (case c_l_people => first | k_is | k_exc)
    (case kf_l_people => first | k_is | k_exc)
    (case a_l_wish_by => first | k_is | k_exc)
    (case l_l_wish_by => first | k_is | k_exc)
    (case c_l_wish_by => first | k_is | k_exc)
    (case kf_l_wish_by => first | k_is | k_exc)
    (case a_l_rows_by => first | k_is | k_exc)
    (case l_l_rows_by => first | k_is | k_exc)
    (case c_l_rows_by => first | k_is | k_exc)
    (case kf_l_rows_by => first | k_is | k_exc)
    (case a_told => first | k_is | k_exc)
    (case l_told => first | k_is | k_exc)
    (case c_told => first | k_is | k_exc)
    (case kf_told => first | k_is | k_exc)
    (case a_is_wish => first | k_is | k_exc)
    (case l_is_wish => first | k_is | k_exc)
    (case c_is_wish => first | k_is | k_exc)
    (case kf_is_wish => first | k_is | k_exc)
    (case a_is_name => first | k_is | k_exc)
    (case l_is_name => first | k_is | k_exc)
    (case c_is_name => first | k_is | k_exc)
    (case kf_is_name => first | k_is | k_exc)
    (case a_read_row => first | k_is | k_exc)
    (case l_read_row => first | k_is | k_exc)
    (case c_read_row => first | k_is | k_exc)
    (case kf_read_row => first | k_is | k_exc)
    (case a_read => first | k_is | k_exc)
    (case l_read => first | k_is | k_exc)
    (case c_read => first | k_is | k_exc)
    (case kf_read => first | k_is | k_exc)
    (case a_l_rows_alike => first | k_is | k_exc)
    (case l_l_rows_alike => first | k_is | k_exc)
    (case c_l_rows_alike => first | k_is | k_exc)
    (case kf_l_rows_alike => first | k_is | k_exc)
    (case a_law => first | k_is | k_exc)
    (case l_law => first | k_is | k_exc)
    (case c_law => first | k_is | k_exc)
    (case kf_law => first | k_is | k_exc)

