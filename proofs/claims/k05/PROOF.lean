import PyProof.Rows.All
import Wide.All
import OpenK.AllK
import Wide.FinOn
import HandS.ForMost
import HandS.Exc
import HandS.TryOnly
import HandS.TryMany
import HandS.ExcOwn
import HandS.WordsExc
import HandS.IsInst
import HandS.Flow
import HandS.TupAny
import HandS.More
import HandS.ExcCtx
import PyProof.Rows.SortShellAny
import PyProof.Rows.StrMeet
import HandS.ExcIs
import KE.RegKIsAll
import PyProof.EqKinds
import PyProof.NeKinds
import PyProof.P3Eq
import PyProof.FactsAll.dict_1
import PyProof.FactsAll.dict_2
import PyProof.FactsAll.subtypes_4
import HandS.HotCalls
import PySem.Challenge.RW_readwriteroom_k05_deeds_refused
set_option Elab.async false
set_option linter.all false
set_option maxRecDepth 100000
set_option maxHeartbeats 4000000
/-! The data layer: readings of a def over plain data, once for all defs -/
namespace DL
open PySem L2

/-! ### data -/
inductive D where
  | non | bl (b : Bool) | int (i : Int) | str (s : Str)
  | lst (xs : List D) | tup (xs : List D) | dic (kvs : List (Str × D)) | scr (ns : List Int) | obj (a : Addr) | ty (n : String)

/-- sound signs, a length that fits -/
def strOk (s : Str) : Bool := PyData.strOk s && decide (s.length ≤ 16777216)
theorem strOk_snd {s : Str} (h : strOk s = true) : PyData.strOk s = true := (Bool.and_eq_true_iff.mp h).1
theorem strOk_len {s : Str} (h : strOk s = true) : s.length ≤ sizeLine := by
  have := of_decide_eq_true (Bool.and_eq_true_iff.mp h).2
  rw [sizeLine_eq]; exact this
theorem strOk_mk {s : Str} (h : PyData.strOk s = true) (k : s.length ≤ sizeLine) : strOk s = true := by
  rw [sizeLine_eq] at k
  exact Bool.and_eq_true_iff.mpr ⟨h, decide_eq_true k⟩

mutual
inductive Rep (K : PySem.W.Frag) (G : Hp) : V → D → Prop
  | non : Rep K G .non .non
  | bl (b : Bool) : Rep K G (.bl b) (.bl b)
  | int (i : Int) : Rep K G (.int i) (.int i)
  | str (s : Str) : strOk s = true → Rep K G (.str s) (.str s)
  | lst {a : Addr} {vs : List V} {ds : List D} : G a = some (.lst vs) → RepL K G vs ds → ds.length ≤ sizeLine → Rep K G (.ref a) (.lst ds)
  | tup {a : Addr} {vs : List V} {ds : List D} : G a = some (.tup vs) → RepL K G vs ds → ds.length ≤ sizeLine → Rep K G (.ref a) (.tup ds)
  | dic {a : Addr} {kv : List (Key × V)} {ds : List (Str × D)} : G a = some (.dK kv) → kv.map (·.1) = ds.map (fun p => Sum.inr p.1) → RepL K G (kv.map (·.2)) (ds.map (·.2)) → Rep K G (.ref a) (.dic ds)
  | scr {a : Addr} {ns : List Int} : SqL K G a (ns.map V.int) → Rep K G (.ref a) (.scr ns)
  | obj (a : Addr) : Rep K G (.ref a) (.obj a)
  | ty (n : String) : Rep K G (.ty n) (.ty n)
inductive RepL (K : PySem.W.Frag) (G : Hp) : List V → List D → Prop
  | nil : RepL K G [] []
  | cons {v : V} {vs : List V} {d : D} {ds : List D} : Rep K G v d → RepL K G vs ds → RepL K G (v :: vs) (d :: ds)
end

section
variable {K : PySem.W.Frag} {G G' : Hp}
mutual
theorem Rep.mono (e : Same G G') : ∀ {v : V} {d : D}, Rep K G v d → Rep K G' v d
  | _, _, .non => .non
  | _, _, .bl b => .bl b
  | _, _, .int i => .int i
  | _, _, .str s h => .str s h
  | _, _, .lst h r z => .lst (e _ _ h) (RepL.mono e r) z
  | _, _, .tup h r z => .tup (e _ _ h) (RepL.mono e r) z
  | _, _, .dic h k r => .dic (e _ _ h) k (RepL.mono e r)
  | _, _, .scr h => .scr (e.seq h)
  | _, _, .obj a => .obj a
  | _, _, .ty n => .ty n
theorem RepL.mono (e : Same G G') : ∀ {vs : List V} {ds : List D}, RepL K G vs ds → RepL K G' vs ds
  | _, _, .nil => .nil
  | _, _, .cons h t => .cons (Rep.mono e h) (RepL.mono e t)
end
theorem RepL.len : ∀ {vs : List V} {ds : List D}, RepL K G vs ds → vs.length = ds.length
  | _, _, .nil => rfl
  | _, _, .cons _ t => by rw [List.length_cons, List.length_cons, t.len]
theorem RepL.get : ∀ {vs : List V} {ds : List D} {i : Nat} {v : V}, RepL K G vs ds → vs[i]? = some v → ∃ d, ds[i]? = some d ∧ Rep K G v d
  | _, _, _, _, .nil, e => by simp at e
  | _, _, 0, _, .cons r _, e => by simp at e; subst e; exact ⟨_, rfl, r⟩
  | _, _, i + 1, v, .cons _ t, e => by
    obtain ⟨u, h1, h2⟩ := RepL.get (i := i) (v := v) t (by simpa using e)
    exact ⟨u, by simpa using h1, h2⟩
theorem RepL.at : ∀ {vs : List V} {ds : List D} {i : Nat} {d : D}, RepL K G vs ds → ds[i]? = some d → ∃ v, vs[i]? = some v ∧ Rep K G v d
  | _, _, _, _, .nil, e => by simp at e
  | _, _, 0, _, .cons r _, e => by simp at e; subst e; exact ⟨_, rfl, r⟩
  | _, _, i + 1, d, .cons _ t, e => by
    obtain ⟨u, h1, h2⟩ := RepL.at (i := i) (d := d) t (by simpa using e)
    exact ⟨u, by simpa using h1, h2⟩
theorem RepL.append : ∀ {vs ws : List V} {ds es : List D}, RepL K G vs ds → RepL K G ws es → RepL K G (vs ++ ws) (ds ++ es)
  | _, _, _, _, .nil, s => s
  | _, _, _, _, .cons r t, s => .cons r (RepL.append t s)
theorem RepL.take : ∀ {vs : List V} {ds : List D} (n : Nat), RepL K G vs ds → RepL K G (vs.take n) (ds.take n)
  | _, _, 0, _ => .nil
  | _, _, _ + 1, .nil => .nil
  | _, _, n + 1, .cons r t => .cons r (RepL.take n t)
theorem RepL.drop : ∀ {vs : List V} {ds : List D} (n : Nat), RepL K G vs ds → RepL K G (vs.drop n) (ds.drop n)
  | _, _, 0, r => r
  | _, _, _ + 1, .nil => .nil
  | _, _, n + 1, .cons _ t => RepL.drop n t
theorem RepL.erase : ∀ {vs : List V} {ds : List D} (n : Nat), RepL K G vs ds → RepL K G (vs.eraseIdx n) (ds.eraseIdx n)
  | _, _, _, .nil => .nil
  | _, _, 0, .cons _ t => t
  | _, _, n + 1, .cons r t => .cons r (RepL.erase n t)
theorem RepL.one {v : V} {d : D} (h : Rep K G v d) : RepL K G [v] [d] := .cons h .nil
theorem RepL.ints : ∀ (ns : List Int), RepL K G (ns.map V.int) (ns.map D.int)
  | [] => .nil
  | i :: r => .cons (.int i) (RepL.ints r)
end

/-! ### what may change: by its address -/
inductive MO where
  | lst (ds : List D) | dic (kvs : List (Str × D)) | ins (C : Addr) (fs : List (Str × D))
abbrev Mem := Addr → Option MO
def Mem.set (M : Mem) (a : Addr) (o : MO) : Mem := fun b => if b = a then some o else M b
def Mem.del (M : Mem) (a : Addr) : Mem := fun b => if b = a then none else M b
theorem Mem.set_same {M : Mem} {a : Addr} {o : MO} : M.set a o a = some o := by unfold Mem.set; rw [if_pos rfl]
theorem Mem.set_ne {M : Mem} {a b : Addr} {o : MO} (h : b ≠ a) : M.set a o b = M b := by unfold Mem.set; rw [if_neg h]
theorem Mem.del_same {M : Mem} {a : Addr} : M.del a a = none := by unfold Mem.del; rw [if_pos rfl]
theorem Mem.del_ne {M : Mem} {a b : Addr} (h : b ≠ a) : M.del a b = M b := by unfold Mem.del; rw [if_neg h]
theorem Mem.set_set {M : Mem} {a : Addr} {o u : MO} : (M.set a o).set a u = M.set a u := by
  funext b; unfold Mem.set; split <;> rfl
theorem Mem.del_set {M : Mem} {a : Addr} {o : MO} (h : M a = none) : (M.set a o).del a = M := by
  funext b
  show (if b = a then none else if b = a then some o else M b) = M b
  by_cases e : b = a
  · rw [if_pos e, e, h]
  · rw [if_neg e, if_neg e]
theorem Mem.set_eq {M : Mem} {a : Addr} {o : MO} (h : M a = some o) : M.set a o = M := by
  funext b
  show (if b = a then some o else M b) = M b
  by_cases e : b = a
  · rw [if_pos e, e, h]
  · rw [if_neg e]
theorem Mem.set_comm {M : Mem} {a b : Addr} {o u : MO} (h : a ≠ b) : (M.set a o).set b u = (M.set b u).set a o := by
  funext c
  show (if c = b then some u else if c = a then some o else M c) = (if c = a then some o else if c = b then some u else M c)
  by_cases e : c = b
  · subst e; rw [if_pos rfl, if_neg (Ne.symm h), if_pos rfl]
  · rw [if_neg e]
    by_cases e2 : c = a
    · rw [if_pos e2, if_pos e2]
    · rw [if_neg e2, if_neg e2, if_neg e]
def Mem.Sub (M N : Mem) : Prop := ∀ a o, M a = some o → N a = some o
theorem Mem.Sub.refl (M : Mem) : M.Sub M := fun _ _ h => h
theorem Mem.Sub.trans {M N P : Mem} (h : M.Sub N) (k : N.Sub P) : M.Sub P := fun a o e => k a o (h a o e)
theorem Mem.sub_set {M : Mem} {a : Addr} {o : MO} (h : M a = none) : M.Sub (M.set a o) := fun b u e => by
  rw [Mem.set_ne (fun z => by rw [z, h] at e; cases e)]; exact e
theorem Mem.sub_del {M : Mem} {a : Addr} : (M.del a).Sub M := fun b u e => by
  by_cases h : b = a
  · rw [h, Mem.del_same] at e; cases e
  · rw [Mem.del_ne h] at e; exact e

def MOk (K : PySem.W.Frag) (H G : Hp) (a : Addr) : MO → Prop
  | .lst ds => ∃ vs, H a = some (.lst vs) ∧ RepL K G vs ds ∧ ds.length ≤ sizeLine
  | .dic kvs => ∃ kv, H a = some (.dK kv) ∧ kv.map (·.1) = kvs.map (fun p => (Sum.inr p.1 : Key)) ∧ RepL K G (kv.map (·.2)) (kvs.map (·.2))
  | .ins C fs => ∃ dx fv, H a = some (.ins C dx fv) ∧ fv.map (·.1) = fs.map (·.1) ∧ RepL K G (fv.map (·.2)) (fs.map (·.2))
structure Ok (K : PySem.W.Frag) (H G : Hp) (M : Mem) : Prop where
  sub : Same G H
  mem : ∀ a o, M a = some o → G a = none ∧ MOk K H G a o
section
variable {K : PySem.W.Frag} {H H' G G' : Hp} {M M' : Mem} {a p : Addr} {o : HO} {m : MO}
theorem MOk.there (h : MOk K H G a m) : ∃ u, H a = some u := by
  cases m with
  | lst ds => obtain ⟨vs, e, _⟩ := h; exact ⟨_, e⟩
  | dic kvs => obtain ⟨vs, e, _⟩ := h; exact ⟨_, e⟩
  | ins C fs => obtain ⟨dx, fv, e, _⟩ := h; exact ⟨_, e⟩
theorem MOk.mono (h : MOk K H G a m) (e : H a = H' a) (g : Same G G') : MOk K H' G' a m := by
  cases m with
  | lst ds => obtain ⟨vs, h1, h2, z⟩ := h; exact ⟨vs, e ▸ h1, h2.mono g, z⟩
  | dic kvs => obtain ⟨vs, h1, k, h2⟩ := h; exact ⟨vs, e ▸ h1, k, h2.mono g⟩
  | ins C fs => obtain ⟨dx, fv, h1, k, h2⟩ := h; exact ⟨dx, fv, e ▸ h1, k, h2.mono g⟩
theorem Ok.ne (ok : Ok K H G M) (h : H p = none) (e : M a = some m) : a ≠ p := fun z => by
  obtain ⟨u, q⟩ := (ok.mem a m e).2.there
  rw [z, h] at q; cases q
theorem Ok.gnone (ok : Ok K H G M) (h : H p = none) : G p = none := ok.sub.free h
theorem Ok.mnone (ok : Ok K H G M) (h : H p = none) : M p = none := by
  cases e : M p with
  | none => rfl
  | some m => exact absurd rfl (ok.ne h e)
theorem Ok.weak (ok : Ok K H G M) (s : M'.Sub M) : Ok K H G M' := ⟨ok.sub, fun a o e => ok.mem a o (s a o e)⟩
theorem same_upd (h : G p = none) : Same G (upd G p o) := fun b u e => by rw [upd_ne (ne_of_none e h)]; exact e
/-- a new object that never changes -/
theorem Ok.frozen (ok : Ok K H G M) (h : H p = none) : Ok K (upd H p o) (upd G p o) M := by
  refine ⟨fun b u e => ?_, fun b u e => ?_⟩
  · by_cases hb : b = p
    · subst hb; rw [upd_same] at e ⊢; exact e
    · rw [upd_ne hb] at e ⊢; exact ok.sub b u e
  · have hb := ok.ne h e
    obtain ⟨h1, h2⟩ := ok.mem b u e
    exact ⟨by rw [upd_ne hb]; exact h1, h2.mono (by rw [upd_ne hb]) (same_upd (ok.gnone h))⟩
/-- a new object that nobody looks at -/
theorem Ok.extra (ok : Ok K H G M) (h : H p = none) : Ok K (upd H p o) G M := by
  refine ⟨fun b u e => ?_, fun b u e => ?_⟩
  · rw [upd_ne (ne_of_none (ok.sub b u e) h)]; exact ok.sub b u e
  · have hb := ok.ne h e
    obtain ⟨h1, h2⟩ := ok.mem b u e
    exact ⟨h1, h2.mono (by rw [upd_ne hb]) (Same.refl _)⟩
/-- an object written or laid that may change -/
theorem Ok.write (ok : Ok K H G M) (h : G a = none) (q : MOk K (upd H a o) G a m) : Ok K (upd H a o) G (M.set a m) := by
  refine ⟨fun b u e => ?_, fun b u e => ?_⟩
  · rw [upd_ne (ne_of_none e h)]; exact ok.sub b u e
  · by_cases hb : b = a
    · subst hb; rw [Mem.set_same] at e; cases e; exact ⟨h, q⟩
    · rw [Mem.set_ne hb] at e
      obtain ⟨h1, h2⟩ := ok.mem b u e
      exact ⟨h1, h2.mono (by rw [upd_ne hb]) (Same.refl _)⟩
/-- what may change no longer does -/
theorem Ok.freeze (ok : Ok K H G M) (e : M a = some m) (hH : H a = some o) : Ok K H (upd G a o) (M.del a) := by
  refine ⟨fun b u q => ?_, fun b u q => ?_⟩
  · by_cases hb : b = a
    · subst hb; rw [upd_same] at q; cases q; exact hH
    · rw [upd_ne hb] at q; exact ok.sub b u q
  · by_cases hb : b = a
    · rw [hb, Mem.del_same] at q; cases q
    · rw [Mem.del_ne hb] at q
      obtain ⟨h1, h2⟩ := ok.mem b u q
      exact ⟨by rw [upd_ne hb]; exact h1, h2.mono rfl (same_upd (ok.mem a m e).1)⟩
end

/-! ### readings over data -/
abbrev DS := List (Option D)
abbrev QD := D → Mem → Prop
abbrev XD := Addr → DS → Mem → Prop
abbrev DE := DS → Mem → QD → XD → Prop
abbrev DT := DS → Mem → (Bool → Mem → Prop) → XD → Prop
abbrev DA := DS → Mem → (List D → Mem → Prop) → XD → Prop
abbrev DO := DS → Mem → (Option Int → Mem → Prop) → XD → Prop
structure DEnds where
  nx : DS → Mem → Prop
  rt : QD
  bk : DS → Mem → Prop := fun _ _ => False
  ct : DS → Mem → Prop := fun _ _ => False
  xc : XD := fun _ _ _ => False
abbrev DSt := DEnds → DS → Mem → Prop

inductive SlotR (K : PySem.W.Frag) (G : Hp) : Option V → Option D → Prop
  | no {x : Option V} : SlotR K G x none
  | yes {v : V} {d : D} : Rep K G v d → SlotR K G (some v) (some d)
abbrev Slots (K : PySem.W.Frag) (G : Hp) : L2.St → DS → Prop := Paired (SlotR K G)
section
variable {K : PySem.W.Frag} {G G' : Hp}
theorem SlotR.mono (e : Same G G') {x : Option V} {y : Option D} (h : SlotR K G x y) : SlotR K G' x y := by
  cases h with
  | no => exact .no
  | yes r => exact .yes (r.mono e)
theorem Slots.mono (e : Same G G') {σ : L2.St} {δ : DS} (h : Slots K G σ δ) : Slots K G' σ δ := Paired.mapP h fun _ _ r => r.mono e
theorem Slots.set {x : Option V} {y : Option D} (r : SlotR K G x y) : ∀ {σ : L2.St} {δ : DS} (i : Nat), Slots K G σ δ → Slots K G (σ.set i x) (δ.set i y)
  | _, _, _, .nil => .nil
  | _, _, 0, .cons _ t => .cons r t
  | _, _, i + 1, .cons q t => .cons q (Slots.set r i t)
def slot : DS → Nat → Option D
  | [], _ => none
  | x :: _, 0 => x
  | _ :: r, n + 1 => slot r n
theorem Slots.get {d : D} : ∀ {σ : L2.St} {δ : DS} {i : Nat}, Slots K G σ δ → slot δ i = some d → ∃ v, σ[i]? = some (some v) ∧ Rep K G v d
  | _, _, _, .nil, e => by cases e
  | _, _, 0, .cons (a := x) (b := y) r t, e => by
    have e' : y = some d := e
    subst e'
    cases r with
    | yes r => exact ⟨_, rfl, r⟩
  | _, _, i + 1, .cons _ t, e => by
    obtain ⟨v, h1, h2⟩ := Slots.get (i := i) t e
    exact ⟨v, by simpa using h1, h2⟩
def dwipe (δ : DS) : List Nat → DS
  | [] => δ
  | v :: vs => (dwipe δ vs).set v none
theorem Slots.wipe {σ : L2.St} {δ : DS} (h : Slots K G σ δ) : ∀ vs : List Nat, Slots K G (wipe σ vs) (dwipe δ vs)
  | [] => h
  | v :: vs => Slots.set .no v (Slots.wipe h vs)
end

def WOk (K : PySem.W.Frag) (W : WX) (G : Hp) (X : XD) : Prop := ∀ cls δ M σ H G', X cls δ M → Ok K H G' M → Same G G' → Slots K G' σ δ → W (.ref cls) none σ H
theorem WOk.mono {K : PySem.W.Frag} {W : WX} {G G1 : Hp} {X : XD} (h : WOk K W G X) (e : Same G G1) : WOk K W G1 X := fun cls δ M σ H G' x ok s sl => h cls δ M σ H G' x ok (e.trans s) sl
theorem WOk.bot {K : PySem.W.Frag} {W : WX} {G : Hp} : WOk K W G (fun _ _ _ => False) := fun _ _ _ _ _ _ z => z.elim
abbrev W0 : WX := fun _ _ _ _ => False
def up (K : PySem.W.Frag) (W : WX) (t : DE) : TE := fun σ H Q => ∃ (G : Hp) (M : Mem) (δ : DS) (Q' : QD) (X' : XD), Ok K H G M ∧ Slots K G σ δ ∧ t δ M Q' X' ∧
  (∀ d M' v H' G', Q' d M' → Ok K H' G' M' → Same G G' → Rep K G' v d → Q v H') ∧ WOk K W G X'
def upT (K : PySem.W.Frag) (W : WX) (t : DT) : TT := fun σ H Q => ∃ (G : Hp) (M : Mem) (δ : DS) (Q' : Bool → Mem → Prop) (X' : XD), Ok K H G M ∧ Slots K G σ δ ∧ t δ M Q' X' ∧
  (∀ d M' H' G', Q' d M' → Ok K H' G' M' → Same G G' → Q d H') ∧ WOk K W G X'
def upA (K : PySem.W.Frag) (W : WX) (t : DA) : TA := fun σ H Q => ∃ (G : Hp) (M : Mem) (δ : DS) (Q' : List D → Mem → Prop) (X' : XD), Ok K H G M ∧ Slots K G σ δ ∧ t δ M Q' X' ∧
  (∀ ds M' vs H' G', Q' ds M' → Ok K H' G' M' → Same G G' → RepL K G' vs ds → Q vs H') ∧ WOk K W G X'
def upO (K : PySem.W.Frag) (W : WX) (t : DO) : TO := fun σ H Q => ∃ (G : Hp) (M : Mem) (δ : DS) (Q' : Option Int → Mem → Prop) (X' : XD), Ok K H G M ∧ Slots K G σ δ ∧ t δ M Q' X' ∧
  (∀ d M' H' G', Q' d M' → Ok K H' G' M' → Same G G' → Q d H') ∧ WOk K W G X'
/-- what a statement is to reach, over data, gives what it is to reach -/
structure EOk (K : PySem.W.Frag) (W : WX) (G : Hp) (E : DEnds) (D' : Ends) : Prop where
  nx : ∀ δ M σ H G', E.nx δ M → Ok K H G' M → Same G G' → Slots K G' σ δ → D'.nx σ H
  rt : ∀ d M v H G', E.rt d M → Ok K H G' M → Same G G' → Rep K G' v d → D'.rt v H
  bk : ∀ δ M σ H G', E.bk δ M → Ok K H G' M → Same G G' → Slots K G' σ δ → D'.bk σ H
  ct : ∀ δ M σ H G', E.ct δ M → Ok K H G' M → Same G G' → Slots K G' σ δ → D'.ct σ H
  xc : WOk K W G E.xc
def upS (K : PySem.W.Frag) (W : WX) (t : DSt) : TS := fun D' σ H => ∃ (G : Hp) (M : Mem) (δ : DS) (E : DEnds), Ok K H G M ∧ Slots K G σ δ ∧ t E δ M ∧ EOk K W G E D'

abbrev PD (X : Cx) (W : WX) (e : Expr) (t : DE) : Prop := PE X e (up X.K W t)
abbrev PDT (X : Cx) (W : WX) (e : Expr) (t : DT) : Prop := PT X e (upT X.K W t)
abbrev PDW (X : Cx) (W : WX) (e : Expr) (t : DT) : Prop := PW X e (upT X.K W t)
abbrev PDA (X : Cx) (W : WX) (es : List Expr) (t : DA) : Prop := PA X es (upA X.K W t)
abbrev PDO (X : Cx) (W : WX) (e : Option Expr) (t : DO) : Prop := PO X e (upO X.K W t)
abbrev PDS (X : Cx) (W : WX) (s : Stmt) (t : DSt) : Prop := PS X s (upS X.K W t)
abbrev PDSs (X : Cx) (W : WX) (s : List Stmt) (t : DSt) : Prop := PSs X s (upS X.K W t)

section
variable {X : Cx}
theorem PEw {e : Expr} {t t' : TE} (h : PE X e t) (w : ∀ σ H Q, t' σ H Q → t σ H Q) : PE X e t' := ⟨fun pins s σ H Q I q => h.run pins s σ H Q I (w σ H Q q)⟩
theorem PTw {e : Expr} {t t' : TT} (h : PT X e t) (w : ∀ σ H Q, t' σ H Q → t σ H Q) : PT X e t' := ⟨fun pins s σ H Q I q => h.run pins s σ H Q I (w σ H Q q)⟩
theorem PWw {e : Expr} {t t' : TT} (h : PW X e t) (w : ∀ σ H Q, t' σ H Q → t σ H Q) : PW X e t' := ⟨fun wh pins s σ H Q I q => h.run wh pins s σ H Q I (w σ H Q q)⟩
theorem PAw {e : List Expr} {t t' : TA} (h : PA X e t) (w : ∀ σ H Q, t' σ H Q → t σ H Q) : PA X e t' := ⟨fun pos pins s σ H Q I q => h.run pos pins s σ H Q I (w σ H Q q)⟩
theorem PSw {e : Stmt} {t t' : TS} (h : PS X e t) (w : ∀ D σ H, t' D σ H → t D σ H) : PS X e t' := ⟨fun pins s σ H D I q => h.run pins s σ H D I (w D σ H q)⟩
theorem PSsw {e : List Stmt} {t t' : TS} (h : PSs X e t) (w : ∀ D σ H, t' D σ H → t D σ H) : PSs X e t' := ⟨fun pins s σ H D I q => h.run pins s σ H D I (w D σ H q)⟩
theorem PE.or {e : Expr} {t u : TE} (h : PE X e t) (k : PE X e u) : PE X e (fun σ H Q => t σ H Q ∨ u σ H Q) :=
  ⟨fun pins s σ H Q I q => q.elim (fun z => h.run pins s σ H Q I z) (fun z => k.run pins s σ H Q I z)⟩
theorem OpR.or {f : Value → Value → Sem Value} {r r' : R2} (h : OpR X f r) (h' : OpR X f r') : OpR X f (fun x y H Q => r x y H Q ∨ r' x y H Q) :=
  fun pins s σ H x y v u Q I rx ry q => q.elim (fun z => h pins s σ H x y v u Q I rx ry z) (fun z => h' pins s σ H x y v u Q I rx ry z)
end
end DL

/-! The data layer: expressions -/
namespace DL
open PySem L2

/-- what is to be read at an address that may change -/
def resO (a : Addr) : Option MO → D
  | some (.lst ds) => .lst ds
  | some (.dic kvs) => .dic kvs
  | _ => .obj a
def res (M : Mem) : D → D
  | .obj a => resO a (M a)
  | .non => .non
  | .bl b => .bl b
  | .int i => .int i
  | .str s => .str s
  | .lst xs => .lst xs
  | .tup xs => .tup xs
  | .dic kvs => .dic kvs
  | .scr ns => .scr ns
  | .ty n => .ty n
section
variable {K : PySem.W.Frag} {H G : Hp} {M : Mem} {v : V} {d : D}
theorem Rep.obj_lst {a : Addr} {ds : List D} (ok : Ok K H G M) (e : resO a (M a) = .lst ds) : M a = some (.lst ds) := by
  cases q : M a with
  | none => rw [q] at e; cases e
  | some m =>
    rw [q] at e
    cases m with
    | lst es => cases e; rfl
    | dic kvs => cases e
    | ins C fs => cases e
theorem Rep.obj_dic {a : Addr} {ds : List (Str × D)} (ok : Ok K H G M) (e : resO a (M a) = .dic ds) : M a = some (.dic ds) := by
  cases q : M a with
  | none => rw [q] at e; cases e
  | some m =>
    rw [q] at e
    cases m with
    | lst es => cases e
    | dic kvs => cases e; rfl
    | ins C fs => cases e
theorem resO_ne {a : Addr} {o : Option MO} {d : D} (e : resO a o = d) : (∃ ds, d = .lst ds) ∨ (∃ kvs, d = .dic kvs) ∨ d = .obj a := by
  subst e
  cases o with
  | none => exact .inr (.inr rfl)
  | some m =>
    cases m with
    | lst es => exact .inl ⟨_, rfl⟩
    | dic kvs => exact .inr (.inl ⟨_, rfl⟩)
    | ins C fs => exact .inr (.inr rfl)
theorem Rep.lstOf {ds : List D} (ok : Ok K H G M) (r : Rep K G v d) (e : res M d = .lst ds) : ∃ a vs, v = .ref a ∧ H a = some (.lst vs) ∧ RepL K G vs ds ∧ ds.length ≤ sizeLine := by
  cases r with
  | lst h q z => cases e; exact ⟨_, _, rfl, ok.sub _ _ h, q, z⟩
  | obj a =>
    obtain ⟨_, vs, h1, h2, z⟩ := ok.mem _ _ (Rep.obj_lst ok e)
    exact ⟨_, vs, rfl, h1, h2, z⟩
  | non => cases e
  | bl => cases e
  | int => cases e
  | str => cases e
  | tup => cases e
  | dic => cases e
  | scr => cases e
  | ty => cases e
theorem Rep.dicOf {ds : List (Str × D)} (ok : Ok K H G M) (r : Rep K G v d) (e : res M d = .dic ds) : ∃ a kv, v = .ref a ∧ H a = some (.dK kv) ∧ kv.map (·.1) = ds.map (fun p => (Sum.inr p.1 : Key)) ∧ RepL K G (kv.map (·.2)) (ds.map (·.2)) := by
  cases r with
  | dic h k q => cases e; exact ⟨_, _, rfl, ok.sub _ _ h, k, q⟩
  | obj a =>
    obtain ⟨_, vs, h1, h2, z⟩ := ok.mem _ _ (Rep.obj_dic ok e)
    exact ⟨_, vs, rfl, h1, h2, z⟩
  | non => cases e
  | bl => cases e
  | int => cases e
  | str => cases e
  | tup => cases e
  | lst => cases e
  | scr => cases e
  | ty => cases e
theorem Rep.tupOf {ds : List D} (ok : Ok K H G M) (r : Rep K G v d) (e : res M d = .tup ds) : ∃ a vs, v = .ref a ∧ H a = some (.tup vs) ∧ RepL K G vs ds ∧ ds.length ≤ sizeLine := by
  cases r with
  | tup h q z => cases e; exact ⟨_, _, rfl, ok.sub _ _ h, q, z⟩
  | obj a => rcases resO_ne e with ⟨_, z⟩ | ⟨_, z⟩ | z <;> cases z
  | non => cases e
  | bl => cases e
  | int => cases e
  | str => cases e
  | lst => cases e
  | dic => cases e
  | scr => cases e
  | ty => cases e
theorem Rep.scrOf {ns : List Int} (ok : Ok K H G M) (r : Rep K G v d) (e : res M d = .scr ns) : ∃ a, v = .ref a ∧ SqL K H a (ns.map V.int) := by
  cases r with
  | scr h => cases e; exact ⟨_, rfl, ok.sub.seq h⟩
  | obj a => rcases resO_ne e with ⟨_, z⟩ | ⟨_, z⟩ | z <;> cases z
  | non => cases e
  | bl => cases e
  | int => cases e
  | str => cases e
  | lst => cases e
  | tup => cases e
  | dic => cases e
  | ty => cases e
theorem Rep.intOf {i : Int} (r : Rep K G v d) (e : res M d = .int i) : v = .int i := by
  cases r with
  | int => cases e; rfl
  | obj a => rcases resO_ne e with ⟨_, z⟩ | ⟨_, z⟩ | z <;> cases z
  | _ => cases e
theorem Rep.strOf {s : Str} (r : Rep K G v d) (e : res M d = .str s) : v = .str s ∧ strOk s = true := by
  cases r with
  | str _ h => cases e; exact ⟨rfl, h⟩
  | obj a => rcases resO_ne e with ⟨_, z⟩ | ⟨_, z⟩ | z <;> cases z
  | _ => cases e
theorem Rep.blOf {b : Bool} (r : Rep K G v d) (e : res M d = .bl b) : v = .bl b := by
  cases r with
  | bl => cases e; rfl
  | obj a => rcases resO_ne e with ⟨_, z⟩ | ⟨_, z⟩ | z <;> cases z
  | _ => cases e
theorem Rep.nonOf (r : Rep K G v d) (e : res M d = .non) : v = .non := by
  cases r with
  | non => rfl
  | obj a => rcases resO_ne e with ⟨_, z⟩ | ⟨_, z⟩ | z <;> cases z
  | _ => cases e
end

theorem res_tup {M : Mem} {d : D} {ds : List D} (e : res M d = .tup ds) : d = .tup ds := by
  cases d with
  | obj a => rcases resO_ne (show resO a (M a) = _ from e) with ⟨_, z⟩ | ⟨_, z⟩ | z <;> cases z
  | _ => exact e
/-! ### texts that are sound -/
theorem len_append (a b : Str) : (a ++ b).length = a.length + b.length := by
  show (a.cps ++ b.cps).size = a.cps.size + b.cps.size
  exact Array.size_append
theorem strOk_append {a b : Str} (h : strOk a = true) (k : strOk b = true) (l : a.length + b.length ≤ sizeLine) : strOk (a ++ b) = true := by
  refine strOk_mk ?_ (by rw [len_append]; exact l)
  have h := strOk_snd h
  have k := strOk_snd k
  unfold PyData.strOk at *
  rw [show (a ++ b).cps = a.cps ++ b.cps from rfl]
  simp_all [Array.all_append]

/-! ### names, constants, operators -/
def el {α : Type} : Option α → (α → Prop) → Prop
  | some d, F => F d
  | none, _ => False
theorem el_of {α : Type} {o : Option α} {F : α → Prop} (h : el o F) : ∃ d, o = some d ∧ F d := by
  cases o with
  | none => exact h.elim
  | some d => exact ⟨d, rfl, h⟩
def dVar (i : Nat) : DE := fun δ M Q _ => el (slot δ i) fun d => Q d M
def dC (d : D) : DE := fun _ M Q _ => Q d M
def dOp (o : D → D → Mem → QD → Prop) (ta tb : DE) : DE := fun δ M Q X => ta δ M (fun x M1 => tb δ M1 (fun y M2 => o x y M2 Q) X) X
def dUn (o : D → Mem → QD → Prop) (ta : DE) : DE := fun δ M Q X => ta δ M (fun x M1 => o x M1 Q) X
def LOp (K : PySem.W.Frag) (r : R2) (o : D → D → Mem → QD → Prop) : Prop := ∀ (x y : V) (H G : Hp) (M : Mem) (dx dy : D) (Q : VK) (Q' : QD), Ok K H G M → Rep K G x dx → Rep K G y dy → o dx dy M Q' →
  (∀ d M' v H' G', Q' d M' → Ok K H' G' M' → Same G G' → Rep K G' v d → Q v H') → r x y H Q
def LUn (K : PySem.W.Frag) (r : V → Hp → VK → Prop) (o : D → Mem → QD → Prop) : Prop := ∀ (x : V) (H G : Hp) (M : Mem) (dx : D) (Q : VK) (Q' : QD), Ok K H G M → Rep K G x dx → o dx M Q' →
  (∀ d M' v H' G', Q' d M' → Ok K H' G' M' → Same G G' → Rep K G' v d → Q v H') → r x H Q
section
variable {X : Cx} {W : WX} {a b c e : Expr} {ta tb tc te : DE} {pos : Pos} {K : PySem.W.Frag}
theorem pd_v (i : Nat) {x : Str} {pos : Pos} (hN : X.N[i]? = some x := by rfl) (hv : Vis X.env.scope x := by first | exact Or.inl rfl | exact Or.inr (Or.inl rfl) | exact Or.inr (Or.inr rfl)) (hd : (x == ("__debug__" : Str)) = false := by decide)
    (hcd : (x == ("__classdict__" : Str)) = false := by decide) : PD X W (.Name x pos) (dVar i) := by
  refine PEw (pe_var hN hv hd hcd) fun σ H Q ⟨G, M, δ, Q', X', ok, sl, h, hq, hx⟩ => ?_
  obtain ⟨d, e, h⟩ := el_of h
  obtain ⟨v, h1, h2⟩ := sl.get e
  exact ⟨v, h1, hq d M v H G h ok (Same.refl _) h2⟩
theorem pd_c {v : V} {d : D} (h : PE X e (tC v)) (r : ∀ G, Rep X.K G v d) : PD X W e (dC d) :=
  PEw h fun σ H Q ⟨G, M, δ, Q', X', ok, sl, h, hq, hx⟩ => hq d M v H G h ok (Same.refl _) (r G)
theorem pd_int {i j pos} : PD X W (.Constant (.int i) j pos) (dC (.int i)) := pd_c pe_int fun _ => .int i
theorem pd_bl {b j pos} : PD X W (.Constant (.bool b) j pos) (dC (.bl b)) := pd_c pe_bl fun _ => .bl b
theorem pd_non {j pos} : PD X W (.Constant .none j pos) (dC .non) := pd_c pe_non fun _ => .non
theorem pd_str {x j pos} (h : strOk x = true := by rfl) : PD X W (.Constant (.str x) j pos) (dC (.str x)) := pd_c pe_str fun _ => .str x h
theorem pd_glob {x : Str} {v : V} {d : D} {u : Value} {pos : Pos} (hg : Gl X x) (hm : X.mg x = some u) (r : RelV v u) (q : ∀ G, Rep X.K G v d) (hd : (x == ("__debug__" : Str)) = false := by decide) : PD X W (.Name x pos) (dC d) :=
  pd_c (pe_glob hg hm r hd) q
theorem up_op {r : R2} {o : D → D → Mem → QD → Prop} (l : LOp K r o) {σ : L2.St} {H : Hp} {Q : VK} (h : up K W (dOp o ta tb) σ H Q) : tOp r (up K W ta) (up K W tb) σ H Q := by
  obtain ⟨G, M, δ, Q', X', ok, sl, h, hq, hx⟩ := h
  exact ⟨G, M, δ, _, X', ok, sl, h, fun d M1 v H1 G1 h1 ok1 e1 r1 => ⟨G1, M1, δ, _, X', ok1, sl.mono e1, h1, fun d2 M2 v2 H2 G2 h2 ok2 e2 r2 =>
    l v v2 H2 G2 M2 d d2 Q Q' ok2 (r1.mono e2) r2 h2 fun d3 M3 v3 H3 G3 h3 ok3 e3 r3 => hq d3 M3 v3 H3 G3 h3 ok3 (e1.trans (e2.trans e3)) r3, hx.mono e1⟩, hx⟩
theorem pd_op {op : Operator} {r : R2} {o : D → D → Mem → QD → Prop} (ho : OpR X (binaryOp op) r) (l : LOp X.K r o) (ha : PD X W a ta) (hb : PD X W b tb) : PD X W (.BinOp a op b pos) (dOp o ta tb) :=
  PEw (pe_op ho ha hb) fun _ _ _ h => up_op l h
theorem pd_un {op : UnaryOp} {r : V → Hp → VK → Prop} {o : D → Mem → QD → Prop} (ho : UnR X (unaryOp op) r) (l : LUn X.K r o) (ha : PD X W a ta) : PD X W (.UnaryOp op a pos) (dUn o ta) :=
  PEw (pe_un ho ha) fun σ H Q ⟨G, M, δ, Q', X', ok, sl, h, hq, hx⟩ => ⟨G, M, δ, _, X', ok, sl, h, fun d M1 v H1 G1 h1 ok1 e1 r1 =>
    l v H1 G1 M1 d Q Q' ok1 r1 h1 fun d3 M3 v3 H3 G3 h3 ok3 e3 r3 => hq d3 M3 v3 H3 G3 h3 ok3 (e1.trans e3) r3, hx⟩
end

/-! ### the operators -/
def oAdd (x y : D) (M : Mem) (Q : QD) : Prop := match res M x, res M y with
  | .int i, .int j => Q (.int (i + j)) M
  | .str a, .str b => a.length + b.length ≤ sizeLine ∧ Q (.str (a ++ b)) M
  | .lst a, .lst b => a.length + b.length ≤ sizeLine ∧ Q (.lst (a ++ b)) M
  | .tup a, .tup b => a.length + b.length ≤ sizeLine ∧ Q (.tup (a ++ b)) M
  | _, _ => False
def oInt (C : Int → Int → Prop) (g : Int → Int → D) (x y : D) (M : Mem) (Q : QD) : Prop := match res M x, res M y with
  | .int i, .int j => C i j ∧ Q (g i j) M
  | _, _ => False
def oInt0 (g : Int → Int → D) (x y : D) (M : Mem) (Q : QD) : Prop := match res M x, res M y with
  | .int i, .int j => Q (g i j) M
  | _, _ => False
abbrev oSub := oInt0 fun i j => .int (i - j)
abbrev oMul := oInt CMul fun i j => .int (i * j)
abbrev oDiv := oInt CDiv fun i j => .int (i / j)
abbrev oMod := oInt (fun _ j => 0 < j) fun i j => .int (i % j)
abbrev oPow := oInt CPow fun i j => .int (i ^ j.toNat)
abbrev oLt := oInt0 fun i j => .bl (decide (i < j))
abbrev oLe := oInt0 fun i j => .bl (decide (i ≤ j))
abbrev oGt := oInt0 fun i j => .bl (decide (j < i))
abbrev oGe := oInt0 fun i j => .bl (decide (j ≤ i))
def oNeg (x : D) (M : Mem) (Q : QD) : Prop := match res M x with
  | .int i => Q (.int (-i)) M
  | _ => False

section
variable {X : Cx} {W : WX} {a b c e : Expr} {ta tb tc te : DE} {pos : Pos} {K : PySem.W.Frag}
theorem l_int0 {g : Int → Int → V} {g' : Int → Int → D} (q : ∀ G i j, Rep K G (g i j) (g' i j)) : LOp K (rI0 g) (oInt0 g') := by
  intro x y H G M dx dy Q Q' ok rx ry h hq
  unfold oInt0 at h
  split at h
  · rename_i i j e1 e2
    exact ⟨i, j, rx.intOf e1, ry.intOf e2, hq _ _ _ _ _ h ok (Same.refl _) (q _ _ _)⟩
  · exact h.elim
theorem l_int {C : Int → Int → Prop} {g : Int → Int → V} {g' : Int → Int → D} (q : ∀ G i j, Rep K G (g i j) (g' i j)) : LOp K (rI C g) (oInt C g') := by
  intro x y H G M dx dy Q Q' ok rx ry h hq
  unfold oInt at h
  split at h
  · rename_i i j e1 e2
    exact ⟨i, j, rx.intOf e1, ry.intOf e2, h.1, hq _ _ _ _ _ h.2 ok (Same.refl _) (q _ _ _)⟩
  · exact h.elim
def rAddA (K : PySem.W.Frag) : R2 := fun x y H Q => ((rI0 fun i j => .int (i + j)) x y H Q ∨ (∃ i j, x = .str i ∧ y = .str j ∧ i.length + j.length ≤ sizeLine ∧ Q (.str (i ++ j)) H)) ∨ (rCat x y H Q ∨ rCatA K x y H Q)
theorem op_addA : OpR X (binaryOp .Add) (rAddA X.K) := OpR.or (OpR.or op_add op_add_str) (OpR.or op_cat op_catA)
theorem l_add : LOp K (rAddA K) oAdd := by
  intro x y H G M dx dy Q Q' ok rx ry h hq
  unfold oAdd at h
  split at h
  · rename_i i j e1 e2
    exact .inl (.inl ⟨i, j, rx.intOf e1, ry.intOf e2, hq _ _ _ _ _ h ok (Same.refl _) (.int _)⟩)
  · rename_i i j e1 e2
    obtain ⟨f1, k1⟩ := rx.strOf e1
    obtain ⟨f2, k2⟩ := ry.strOf e2
    exact .inl (.inr ⟨i, j, f1, f2, h.1, hq _ _ _ _ _ h.2 ok (Same.refl _) (.str _ (strOk_append k1 k2 h.1))⟩)
  · rename_i as bs e1 e2
    obtain ⟨p1, v1, f1, h1, q1, z1⟩ := rx.lstOf ok e1
    obtain ⟨p2, v2, f2, h2, q2, z2⟩ := ry.lstOf ok e2
    refine .inr (.inl ⟨p1, p2, v1, v2, f1, f2, h1, h2, by rw [q1.len, q2.len]; exact h.1, fun p hp => ?_⟩)
    have gp := ok.gnone hp
    exact hq _ _ _ _ _ h.2 (ok.frozen hp) (same_upd gp) (.lst upd_same ((q1.append q2).mono (same_upd gp)) (by rw [List.length_append]; exact h.1))
  · rename_i as bs e1 e2
    obtain ⟨p1, v1, f1, h1, q1, z1⟩ := rx.tupOf ok e1
    obtain ⟨p2, v2, f2, h2, q2, z2⟩ := ry.tupOf ok e2
    have l1 := q1.len
    have l2 := q2.len
    refine .inr (.inr ⟨p1, p2, v1, v2, f1, f2, SqT.of h1, SqT.of h2, by rw [l1, l2]; exact h.1, fun z => ?_, fun z1 z2 => ?_, fun _ _ p hp => ?_⟩)
    · subst z
      have : as = [] := List.length_eq_zero_iff.mp l1.symm
      subst this
      have e3 := res_tup e2
      subst e3
      subst f2
      exact hq _ _ _ _ _ h.2 ok (Same.refl _) (by simpa using ry)
    · subst z2
      have : bs = [] := List.length_eq_zero_iff.mp l2.symm
      subst this
      have e3 := res_tup e1
      subst e3
      subst f1
      exact hq _ _ _ _ _ h.2 ok (Same.refl _) (by simpa using rx)
    · have gp := ok.gnone hp
      exact hq _ _ _ _ _ h.2 (ok.frozen hp) (same_upd gp) (.tup upd_same ((q1.append q2).mono (same_upd gp)) (by rw [List.length_append]; exact h.1))
  · exact h.elim
theorem pd_add (ha : PD X W a ta) (hb : PD X W b tb) : PD X W (.BinOp a .Add b pos) (dOp oAdd ta tb) := pd_op op_addA l_add ha hb
theorem pd_sub (ha : PD X W a ta) (hb : PD X W b tb) : PD X W (.BinOp a .Sub b pos) (dOp oSub ta tb) := pd_op op_sub (l_int0 fun _ _ _ => .int _) ha hb
theorem pd_mul (ha : PD X W a ta) (hb : PD X W b tb) : PD X W (.BinOp a .Mult b pos) (dOp oMul ta tb) := pd_op op_mul (l_int fun _ _ _ => .int _) ha hb
theorem pd_div (ha : PD X W a ta) (hb : PD X W b tb) : PD X W (.BinOp a .FloorDiv b pos) (dOp oDiv ta tb) := pd_op op_fdiv (l_int fun _ _ _ => .int _) ha hb
theorem pd_mod (ha : PD X W a ta) (hb : PD X W b tb) : PD X W (.BinOp a .Mod b pos) (dOp oMod ta tb) := pd_op op_mod (l_int fun _ _ _ => .int _) ha hb
theorem pd_pow (ha : PD X W a ta) (hb : PD X W b tb) : PD X W (.BinOp a .Pow b pos) (dOp oPow ta tb) := pd_op op_pow (l_int fun _ _ _ => .int _) ha hb
theorem pd_neg (ha : PD X W a ta) : PD X W (.UnaryOp .USub a pos) (dUn oNeg ta) := pd_un un_neg (fun x H G M dx Q Q' ok rx h hq => by
  unfold oNeg at h
  split at h
  · rename_i i e1
    exact ⟨i, rx.intOf e1, hq _ _ _ _ _ h ok (Same.refl _) (.int _)⟩
  · exact h.elim) ha
end
end DL

/-! The data layer: comparisons and tests -/
namespace DL
open PySem L2

/-! ### == over data -/
mutual
def toPy : D → PyData
  | .non => .none
  | .bl b => .bool b
  | .int i => .int i
  | .str s => .str s
  | .lst xs => .list (toPyL xs)
  | .tup xs => .tuple (toPyL xs)
  | .dic _ => .none
  | .scr _ => .none
  | .obj _ => .none
  | .ty _ => .none
def toPyL : List D → List PyData
  | [] => []
  | x :: xs => toPy x :: toPyL xs
end
mutual
/-- none, bools, ints, texts, lists, tuples, at most n deep -/
def flatN : Nat → D → Bool
  | _, .non => true
  | _, .bl _ => true
  | _, .int _ => true
  | _, .str _ => true
  | n + 1, .lst xs => flatL n xs
  | n + 1, .tup xs => flatL n xs
  | _, _ => false
def flatL : Nat → List D → Bool
  | _, [] => true
  | n, x :: xs => flatN n x && flatL n xs
end
theorem flatL_all (n : Nat) : ∀ xs : List D, flatL n xs = xs.all (flatN n)
  | [] => rfl
  | x :: xs => by unfold flatL; rw [flatL_all n xs, List.all_cons]
section
variable {K : PySem.W.Frag} {H G : Hp}
mutual
theorem Rep.dp (e : Same G H) : ∀ {n : Nat} {v : V} {d : D}, Rep K G v d → flatN n d = true → Dp K H v (toPy d) ∧ (toPy d).canLay0 = true ∧ (toPy d).depth ≤ n
  | n, _, _, .non, _ => ⟨.non, rfl, by simp [toPy, PyData.depth]⟩
  | n, _, _, .bl b, _ => ⟨.bl b, rfl, by simp [toPy, PyData.depth]⟩
  | n, _, _, .int i, _ => ⟨.int i, rfl, by simp [toPy, PyData.depth]⟩
  | n, _, _, .str s h, _ => ⟨.str s, strOk_snd h, by simp [toPy, PyData.depth]⟩
  | 0, _, _, .lst h r z, f => by simp [flatN] at f
  | 0, _, _, .tup h r z, f => by simp [flatN] at f
  | n + 1, _, _, .lst h r z, f => by
    obtain ⟨a, b, c⟩ := RepL.dp e (n := n) r (by simpa [flatN] using f)
    exact ⟨.lst (SqL.of (e _ _ h)) a, b, by simp only [toPy, PyData.depth]; omega⟩
  | n + 1, _, _, .tup h r z, f => by
    obtain ⟨a, b, c⟩ := RepL.dp e (n := n) r (by simpa [flatN] using f)
    exact ⟨.tup (SqT.of (e _ _ h)) a, b, by simp only [toPy, PyData.depth]; omega⟩
  | n, _, _, .dic h k r, f => by cases n <;> simp [flatN] at f
  | n, _, _, .scr h, f => by cases n <;> simp [flatN] at f
  | n, _, _, .obj a, f => by cases n <;> simp [flatN] at f
  | n, _, _, .ty a, f => by cases n <;> simp [flatN] at f
theorem RepL.dp (e : Same G H) : ∀ {n : Nat} {vs : List V} {ds : List D}, RepL K G vs ds → flatL n ds = true → DpAll K H vs (toPyL ds) ∧ PyData.canLayAll0 (toPyL ds) = true ∧ PyData.depthAll (toPyL ds) ≤ n
  | n, _, _, .nil, _ => ⟨.nil, rfl, Nat.zero_le _⟩
  | n, _, _, .cons h t, f => by
    unfold flatL at f
    rw [Bool.and_eq_true] at f
    obtain ⟨a, b, c⟩ := Rep.dp e (n := n) h f.1
    obtain ⟨a2, b2, c2⟩ := RepL.dp e (n := n) t f.2
    exact ⟨.cons a a2, by simp only [toPyL, PyData.canLayAll0, b, b2]; rfl, by simp only [toPyL, PyData.depthAll]; omega⟩
end
end
def D.eqv (x y : D) : Bool := PyData.eqv (toPy x) (toPy y)
def D.eqvL (xs ys : List D) : Bool := PyData.eqvAll (toPyL xs) (toPyL ys)
/-- == of scalars, where the kinds are told -/
def eqS : D → D → Option Bool
  | .non, .non => some true
  | .non, .int _ => some false
  | .int _, .non => some false
  | .non, .bl _ => some false
  | .bl _, .non => some false
  | .non, .str _ => some false
  | .str _, .non => some false
  | .int _, .str _ => some false
  | .str _, .int _ => some false
  | .bl _, .str _ => some false
  | .str _, .bl _ => some false
  | .int i, .int j => some (decide (i = j))
  | .bl i, .bl j => some (decide (i = j))
  | .str i, .str j => some (decide (i = j))
  | _, _ => none
def oEqN (neg : Bool) (x y : D) (M : Mem) (Q : QD) : Prop := match eqS x y with
  | some b => Q (.bl (cond neg (!b) b)) M
  | none => flatN 9 (res M x) = true ∧ flatN 9 (res M y) = true ∧ Q (.bl (cond neg (!D.eqv (res M x) (res M y)) (D.eqv (res M x) (res M y)))) M
abbrev oEq := oEqN false
abbrev oNe := oEqN true
section
variable {K : PySem.W.Frag} {H G : Hp} {M : Mem}
theorem Rep.eqS {v w : V} {x y : D} {b : Bool} (rx : Rep K G v x) (ry : Rep K G w y) (e : eqS x y = some b) : scal v w = true ∧ decide (v = w) = b := by
  cases rx <;> cases ry <;> first | (cases e; done) | skip
  all_goals first | (cases e; exact ⟨rfl, by simp⟩) | (cases e; exact ⟨rfl, rfl⟩) | (simp [DL.eqS] at e; exact ⟨rfl, by rw [← e]; simp⟩)
theorem Rep.resDp {v : V} {d : D} (ok : Ok K H G M) (r : Rep K G v d) (f : flatN 9 (res M d) = true) : Dp K H v (toPy (res M d)) ∧ SeqAt.shaped (toPy (res M d)) = true := by
  have fin : ∀ {d' : D}, (Dp K H v (toPy d') ∧ (toPy d').canLay0 = true ∧ (toPy d').depth ≤ 9) → Dp K H v (toPy d') ∧ SeqAt.shaped (toPy d') = true := fun ⟨a, b, c⟩ =>
    ⟨a, by unfold SeqAt.shaped; rw [b, Bool.true_and]; exact decide_eq_true (by omega)⟩
  cases r with
  | obj a =>
    cases q : res M (.obj a) with
    | lst ds =>
      rw [q] at f
      obtain ⟨_, vs, h1, h2, z⟩ := ok.mem _ _ (Rep.obj_lst ok q)
      obtain ⟨a1, b1, c1⟩ := RepL.dp ok.sub (n := 8) h2 (by simpa [flatN] using f)
      exact fin ⟨.lst (SqL.of h1) a1, b1, by simp only [toPy, PyData.depth]; omega⟩
    | dic kvs => rw [q] at f; simp [flatN] at f
    | obj b => rw [q] at f; simp [flatN] at f
    | _ => rcases resO_ne q with ⟨_, z⟩ | ⟨_, z⟩ | z <;> cases z
  | non => exact fin (Rep.dp ok.sub .non f)
  | bl b => exact fin (Rep.dp ok.sub (.bl b) f)
  | int i => exact fin (Rep.dp ok.sub (.int i) f)
  | str s h => exact fin (Rep.dp ok.sub (.str s h) f)
  | lst h q z => exact fin (Rep.dp ok.sub (.lst h q z) f)
  | tup h q z => exact fin (Rep.dp ok.sub (.tup h q z) f)
  | dic h k q => exact fin (Rep.dp ok.sub (.dic h k q) f)
  | scr h => exact fin (Rep.dp ok.sub (.scr h) f)
  | ty h => exact fin (Rep.dp ok.sub (.ty h) f)
def rEqA (K : PySem.W.Frag) : R2 := fun x y H Q => rEq x y H Q ∨ rEqD K x y H Q
def rNeA (K : PySem.W.Frag) : R2 := fun x y H Q => rNe x y H Q ∨ rNeD K x y H Q
theorem l_eq : LOp K (rEqA K) oEq := by
  intro x y H G M dx dy Q Q' ok rx ry h hq
  unfold oEq oEqN at h
  split at h
  · rename_i b e
    obtain ⟨s, q⟩ := rx.eqS ry e
    exact .inl ⟨s, by rw [q]; exact hq _ _ _ _ _ h ok (Same.refl _) (.bl _)⟩
  · obtain ⟨f1, f2, h⟩ := h
    obtain ⟨a1, b1⟩ := rx.resDp ok f1
    obtain ⟨a2, b2⟩ := ry.resDp ok f2
    exact .inr ⟨_, _, a1, a2, b1, b2, hq _ _ _ _ _ h ok (Same.refl _) (.bl _)⟩
theorem l_ne : LOp K (rNeA K) oNe := by
  intro x y H G M dx dy Q Q' ok rx ry h hq
  unfold oNe oEqN at h
  split at h
  · rename_i b e
    obtain ⟨s, q⟩ := rx.eqS ry e
    exact .inl ⟨s, by rw [q]; exact hq _ _ _ _ _ h ok (Same.refl _) (.bl _)⟩
  · obtain ⟨f1, f2, h⟩ := h
    obtain ⟨a1, b1⟩ := rx.resDp ok f1
    obtain ⟨a2, b2⟩ := ry.resDp ok f2
    exact .inr ⟨_, _, a1, a2, b1, b2, hq _ _ _ _ _ h ok (Same.refl _) (.bl _)⟩
end

/-! ### in -/
def flatD : D → Bool
  | .non => true
  | .bl _ => true
  | .int _ => true
  | .str _ => true
  | _ => false
def eqF : D → D → Bool
  | .non, .non => true
  | .bl a, .bl b => a == b
  | .bl a, .int b => (if a then 1 else 0) == b
  | .int a, .bl b => a == (if b then 1 else 0)
  | .int a, .int b => a == b
  | .str a, .str b => a == b
  | _, _ => false
def inD (x : D) (xs : List D) : Bool := xs.any fun y => eqF y x
def oInN (neg : Bool) (x y : D) (M : Mem) (Q : QD) : Prop := match res M y with
  | .lst ds => flatD x = true ∧ ds.all flatD = true ∧ Q (.bl (cond neg (!inD x ds) (inD x ds))) M
  | .tup ds => flatD x = true ∧ ds.all flatD = true ∧ Q (.bl (cond neg (!inD x ds) (inD x ds))) M
  | .str z => (match x with
    | .str ⟨⟨[c]⟩⟩ => Q (.bl (cond neg (!decide (c ∈ z.cps.toList)) (decide (c ∈ z.cps.toList)))) M
    | _ => False)
  | _ => False
abbrev oIn := oInN false
abbrev oNotIn := oInN true
section
variable {K : PySem.W.Frag} {H G : Hp} {M : Mem}
theorem Rep.flat {v : V} {d : D} (r : Rep K G v d) (f : flatD d = true) : flatV v = true := by
  cases r <;> first | rfl | cases f
theorem RepL.flat : ∀ {vs : List V} {ds : List D}, RepL K G vs ds → ds.all flatD = true → vs.all flatV = true
  | _, _, .nil, _ => rfl
  | _, _, .cons h t, f => by
    rw [List.all_cons, Bool.and_eq_true] at f ⊢
    exact ⟨h.flat f.1, t.flat f.2⟩
theorem Rep.eqF {v w : V} {x y : D} (rx : Rep K G v x) (ry : Rep K G w y) : flatD x = true → flatD y = true → eqV v w = eqF x y := by
  intro f g
  cases rx <;> first | (cases f; done) | skip
  all_goals (cases ry <;> first | (cases g; done) | rfl)
theorem RepL.inD {v : V} {x : D} (rx : Rep K G v x) (fx : flatD x = true) : ∀ {vs : List V} {ds : List D}, RepL K G vs ds → ds.all flatD = true → inV v vs = inD x ds
  | _, _, .nil, _ => rfl
  | _, _, .cons h t, f => by
    rw [List.all_cons, Bool.and_eq_true] at f
    unfold inV DL.inD
    rw [List.any_cons, List.any_cons, h.eqF rx f.1 fx]
    exact congrArg _ (RepL.inD rx fx t f.2)
def rInA (K : PySem.W.Frag) : R2 := fun x y H Q => rIn K false x y H Q ∨ ∃ (c : Nat) (z : Str), x = .str ⟨#[c]⟩ ∧ y = .str z ∧ Q (.bl (decide (c ∈ z.cps.toList))) H
def rNotInA (K : PySem.W.Frag) : R2 := fun x y H Q => rIn K true x y H Q ∨ ∃ (c : Nat) (z : Str), x = .str ⟨#[c]⟩ ∧ y = .str z ∧ Q (.bl (!decide (c ∈ z.cps.toList))) H
theorem l_inG {neg : Bool} {r : R2} (hr : ∀ x y H Q, rIn K neg x y H Q → r x y H Q) (hs : ∀ x y H Q, (∃ (c : Nat) (z : Str), x = .str ⟨#[c]⟩ ∧ y = .str z ∧ Q (.bl (cond neg (!decide (c ∈ z.cps.toList)) (decide (c ∈ z.cps.toList)))) H) → r x y H Q) : LOp K r (oInN neg) := by
  intro x y H G M dx dy Q Q' ok rx ry h hq
  unfold oInN at h
  have bb : ∀ b c : Bool, (if neg = true then b else c) = cond neg b c := by cases neg <;> intros <;> rfl
  split at h
  · rename_i ds e
    obtain ⟨p, vs, f, h1, q, z⟩ := ry.lstOf ok e
    obtain ⟨fx, fs, h⟩ := h
    exact hr _ _ _ _ ⟨p, vs, f, .inl (SqL.of h1), rx.flat fx, q.flat fs, by rw [q.inD rx fx fs, bb]; exact hq _ _ _ _ _ h ok (Same.refl _) (.bl _)⟩
  · rename_i ds e
    obtain ⟨p, vs, f, h1, q, z⟩ := ry.tupOf ok e
    obtain ⟨fx, fs, h⟩ := h
    exact hr _ _ _ _ ⟨p, vs, f, .inr (SqT.of h1), rx.flat fx, q.flat fs, by rw [q.inD rx fx fs, bb]; exact hq _ _ _ _ _ h ok (Same.refl _) (.bl _)⟩
  · rename_i z e
    split at h
    · rename_i c
      cases rx
      exact hs _ _ _ _ ⟨c, z, rfl, (ry.strOf e).1, hq _ _ _ _ _ h ok (Same.refl _) (.bl _)⟩
    · exact h.elim
  · exact h.elim
end

/-! ### comparisons as values, as tests -/
def asB (d : D) (M : Mem) (Q : Bool → Mem → Prop) : Prop := match d with
  | .bl b => Q b M
  | _ => False
def dB (t : DE) : DT := fun δ M Q X => t δ M (fun d M1 => asB d M1 Q) X
def isN : D → Bool
  | .non => true
  | _ => false
def dIsN (neg : Bool) (t : DE) : DE := fun δ M Q X => t δ M (fun d M1 => Q (.bl (cond neg (!isN d) (isN d))) M1) X
def dChain (o o' : D → D → Mem → QD → Prop) (ta tb tc : DE) : DE := fun δ M Q X => ta δ M (fun x M1 => tb δ M1 (fun y M2 => o x y M2 fun z M3 => asB z M3 fun b M3 => cond b (tc δ M3 (fun w M4 => o' y w M4 Q) X) (Q (.bl false) M3)) X) X
section
variable {X : Cx} {W : WX} {a b c e : Expr} {ta tb tc te : DE} {pos : Pos} {K : PySem.W.Frag} {op op' : CmpOp} {r r' : R2} {o o' : D → D → Mem → QD → Prop}
theorem asB_of {G : Hp} {M : Mem} {d : D} {v : V} {Q : Bool → Mem → Prop} (h : asB d M Q) (r : Rep K G v d) : ∃ k, v = .bl k ∧ Q k M := by
  unfold asB at h
  split at h
  · cases r; exact ⟨_, rfl, h⟩
  · exact h.elim
theorem up_B {t : DE} {σ : L2.St} {H : Hp} {Q : Bool → Hp → Prop} (h : upT K W (dB t) σ H Q) : up K W t σ H fun x H' => ∃ k, x = .bl k ∧ Q k H' := by
  obtain ⟨G, M, δ, Q', X', ok, sl, h, hq, hx⟩ := h
  refine ⟨G, M, δ, _, X', ok, sl, h, fun d M' v H' G' h1 ok' e' r' => ?_, hx⟩
  obtain ⟨k, e1, h2⟩ := asB_of h1 r'
  exact ⟨k, e1, hq k M' H' G' h2 ok' e'⟩
theorem pd_cmp (ho : OpR X (compareOp op) r) (l : LOp X.K r o) (ha : PD X W a ta) (hb : PD X W b tb) (hm : behindInMarks op b = false := by rfl) : PD X W (.Compare a [op] [b] pos) (dOp o ta tb) :=
  PEw (pe_cmpR ho ha hb hm) fun _ _ _ h => up_op l h
theorem pdt_cmp (ho : OpR X (compareOp op) r) (l : LOp X.K r o) (ha : PD X W a ta) (hb : PD X W b tb) (hm : behindInMarks op b = false := by rfl) : PDT X W (.Compare a [op] [b] pos) (dB (dOp o ta tb)) :=
  PTw (pt_cmpR ho ha hb hm) fun _ _ _ h => up_op l (up_B h)
theorem pdt_val (h : PD X W e te) (he : ∀ whole, isTrue e X.env whole = (do let v ← whole; standAt e.pos; holding [v] (truthy v)) := by intro _; rfl) : PDT X W e (dB te) :=
  PTw (pt_val h he) fun _ _ _ h => up_B h
theorem up_isN {neg : Bool} {t : DE} {σ : L2.St} {H : Hp} {Q : VK} (h : up K W (dIsN neg t) σ H Q) : up K W t σ H fun x H1 => Q (.bl (cond neg (!decide (x = .non)) (decide (x = .non)))) H1 := by
  obtain ⟨G, M, δ, Q', X', ok, sl, h, hq, hx⟩ := h
  refine ⟨G, M, δ, _, X', ok, sl, h, fun d M' v H' G' h1 ok' e' r' => ?_, hx⟩
  have : decide (v = .non) = isN d := by cases r' <;> simp [isN]
  show Q (V.bl (cond neg (!decide (v = .non)) (decide (v = .non)))) H'
  rw [this]
  exact hq _ M' _ H' G' h1 ok' e' (.bl _)
theorem pd_isN {j pos'} (ha : PD X W a ta) : PD X W (.Compare a [.Is] [.Constant .none j pos'] pos) (dIsN false ta) := PEw (pe_cmp (pc_isN ha) rfl) fun _ _ _ h => up_isN h
theorem pd_notN {j pos'} (ha : PD X W a ta) : PD X W (.Compare a [.IsNot] [.Constant .none j pos'] pos) (dIsN true ta) := PEw (pe_cmp (pc_notN ha) rfl) fun _ _ _ h => up_isN h
theorem pdt_isN {j pos'} (ha : PD X W a ta) : PDT X W (.Compare a [.Is] [.Constant .none j pos'] pos) (dB (dIsN false ta)) := PTw (pt_cmp (pc_isN ha) rfl) fun _ _ _ h => up_isN (up_B h)
theorem pdt_notN {j pos'} (ha : PD X W a ta) : PDT X W (.Compare a [.IsNot] [.Constant .none j pos'] pos) (dB (dIsN true ta)) := PTw (pt_cmp (pc_notN ha) rfl) fun _ _ _ h => up_isN (up_B h)
theorem up_chain (l : LOp K r o) (l' : LOp K r' o') {σ : L2.St} {H : Hp} {Q : VK} (h : up K W (dChain o o' ta tb tc) σ H Q) : tChain r r' (up K W ta) (up K W tb) (up K W tc) σ H Q := by
  obtain ⟨G, M, δ, Q', X', ok, sl, h, hq, hx⟩ := h
  refine ⟨G, M, δ, _, X', ok, sl, h, fun d M1 v H1 G1 h1 ok1 e1 r1 => ⟨G1, M1, δ, _, X', ok1, sl.mono e1, h1, fun d2 M2 v2 H2 G2 h2 ok2 e2 r2 => ?_, hx.mono e1⟩, hx⟩
  refine l v v2 H2 G2 M2 d d2 _ _ ok2 (r1.mono e2) r2 h2 fun d3 M3 v3 H3 G3 h3 ok3 e3 r3 => ?_
  obtain ⟨k, ek, h4⟩ := asB_of h3 r3
  refine ⟨k, ek, ?_⟩
  cases k with
  | true =>
    rw [if_pos rfl]
    refine ⟨G3, M3, δ, _, X', ok3, (sl.mono e1).mono (e2.trans e3), h4, fun d5 M5 v5 H5 G5 h5 ok5 e5 r5 => ?_, hx.mono (e1.trans (e2.trans e3))⟩
    exact l' v2 v5 H5 G5 M5 d2 d5 Q Q' ok5 (r2.mono (e3.trans e5)) r5 h5 fun d6 M6 v6 H6 G6 h6 ok6 e6 r6 => hq d6 M6 v6 H6 G6 h6 ok6 (e1.trans (e2.trans (e3.trans (e5.trans e6)))) r6
  | false =>
    rw [if_neg Bool.false_ne_true]
    exact hq _ M3 _ H3 G3 h4 ok3 (e1.trans (e2.trans e3)) (.bl _)
theorem pd_chain (ho : OpR X (compareOp op) r) (ho' : OpR X (compareOp op') r') (l : LOp X.K r o) (l' : LOp X.K r' o') (ha : PD X W a ta) (hb : PD X W b tb) (hc : PD X W c tc)
    (hm : lastMarks [op, op'] [b, c] = false := by with_unfolding_all rfl) : PD X W (.Compare a [op, op'] [b, c] pos) (dChain o o' ta tb tc) := PEw (pe_chain ho ho' ha hb hc hm) fun _ _ _ h => up_chain l l' h
theorem pdt_chain (ho : OpR X (compareOp op) r) (ho' : OpR X (compareOp op') r') (l : LOp X.K r o) (l' : LOp X.K r' o') (ha : PD X W a ta) (hb : PD X W b tb) (hc : PD X W c tc)
    (hm : lastMarks [op, op'] [b, c] = false := by with_unfolding_all rfl) : PDT X W (.Compare a [op, op'] [b, c] pos) (dB (dChain o o' ta tb tc)) := PTw (pt_chain ho ho' ha hb hc hm) fun _ _ _ h => up_chain l l' (up_B h)
abbrev l_cmp {g : Int → Int → Bool} : LOp K (rI0 fun i j => .bl (g i j)) (oInt0 fun i j => .bl (g i j)) := l_int0 fun _ _ _ => .bl _
theorem pd_lt (ha : PD X W a ta) (hb : PD X W b tb) : PD X W (.Compare a [.Lt] [b] pos) (dOp oLt ta tb) := pd_cmp op_lt l_cmp ha hb (nomark _)
theorem pd_le (ha : PD X W a ta) (hb : PD X W b tb) : PD X W (.Compare a [.LtE] [b] pos) (dOp oLe ta tb) := pd_cmp op_le l_cmp ha hb (nomark _)
theorem pd_gt (ha : PD X W a ta) (hb : PD X W b tb) : PD X W (.Compare a [.Gt] [b] pos) (dOp oGt ta tb) := pd_cmp op_gt l_cmp ha hb (nomark _)
theorem pd_ge (ha : PD X W a ta) (hb : PD X W b tb) : PD X W (.Compare a [.GtE] [b] pos) (dOp oGe ta tb) := pd_cmp op_ge l_cmp ha hb (nomark _)
theorem pdt_lt (ha : PD X W a ta) (hb : PD X W b tb) : PDT X W (.Compare a [.Lt] [b] pos) (dB (dOp oLt ta tb)) := pdt_cmp op_lt l_cmp ha hb (nomark _)
theorem pdt_le (ha : PD X W a ta) (hb : PD X W b tb) : PDT X W (.Compare a [.LtE] [b] pos) (dB (dOp oLe ta tb)) := pdt_cmp op_le l_cmp ha hb (nomark _)
theorem pdt_gt (ha : PD X W a ta) (hb : PD X W b tb) : PDT X W (.Compare a [.Gt] [b] pos) (dB (dOp oGt ta tb)) := pdt_cmp op_gt l_cmp ha hb (nomark _)
theorem pdt_ge (ha : PD X W a ta) (hb : PD X W b tb) : PDT X W (.Compare a [.GtE] [b] pos) (dB (dOp oGe ta tb)) := pdt_cmp op_ge l_cmp ha hb (nomark _)
theorem op_eqA (hu : X.A.units + 64 < cLine) : OpR X (compareOp .Eq) (rEqA X.K) := OpR.or op_eq (op_eqD hu)
theorem op_neA (hu : X.A.units + 64 < cLine) : OpR X (compareOp .NotEq) (rNeA X.K) := OpR.or op_ne (op_neD hu)
theorem pd_eq (hu : X.A.units + 64 < cLine) (ha : PD X W a ta) (hb : PD X W b tb) : PD X W (.Compare a [.Eq] [b] pos) (dOp oEq ta tb) := pd_cmp (op_eqA hu) l_eq ha hb (nomark _)
theorem pd_ne (hu : X.A.units + 64 < cLine) (ha : PD X W a ta) (hb : PD X W b tb) : PD X W (.Compare a [.NotEq] [b] pos) (dOp oNe ta tb) := pd_cmp (op_neA hu) l_ne ha hb (nomark _)
theorem pdt_eq (hu : X.A.units + 64 < cLine) (ha : PD X W a ta) (hb : PD X W b tb) : PDT X W (.Compare a [.Eq] [b] pos) (dB (dOp oEq ta tb)) := pdt_cmp (op_eqA hu) l_eq ha hb (nomark _)
theorem pdt_ne (hu : X.A.units + 64 < cLine) (ha : PD X W a ta) (hb : PD X W b tb) : PDT X W (.Compare a [.NotEq] [b] pos) (dB (dOp oNe ta tb)) := pdt_cmp (op_neA hu) l_ne ha hb (nomark _)
theorem op_inA : OpR X (compareOp .In) (rInA X.K) := OpR.or op_in_seq op_in_sign
theorem op_notInA : OpR X (compareOp .NotIn) (rNotInA X.K) := OpR.or op_notIn_seq op_notIn_sign
theorem l_in : LOp K (rInA K) oIn := l_inG (fun _ _ _ _ h => .inl h) fun _ _ _ _ h => .inr h
theorem l_notIn : LOp K (rNotInA K) oNotIn := l_inG (fun _ _ _ _ h => .inl h) fun _ _ _ _ h => .inr h
theorem pd_in (ha : PD X W a ta) (hb : PD X W b tb) (hm : behindInMarks .In b = false := by rfl) : PD X W (.Compare a [.In] [b] pos) (dOp oIn ta tb) := pd_cmp op_inA l_in ha hb hm
theorem pd_notIn (ha : PD X W a ta) (hb : PD X W b tb) (hm : behindInMarks .NotIn b = false := by rfl) : PD X W (.Compare a [.NotIn] [b] pos) (dOp oNotIn ta tb) := pd_cmp op_notInA l_notIn ha hb hm
theorem pdt_in (ha : PD X W a ta) (hb : PD X W b tb) (hm : behindInMarks .In b = false := by rfl) : PDT X W (.Compare a [.In] [b] pos) (dB (dOp oIn ta tb)) := pdt_cmp op_inA l_in ha hb hm
theorem pdt_notIn (ha : PD X W a ta) (hb : PD X W b tb) (hm : behindInMarks .NotIn b = false := by rfl) : PDT X W (.Compare a [.NotIn] [b] pos) (dB (dOp oNotIn ta tb)) := pdt_cmp op_notInA l_notIn ha hb hm
end

/-! ### and, or, not, if -/
def dAnd (t u : DT) : DT := fun δ M Q X => t δ M (fun b M1 => cond b (u δ M1 Q X) (Q false M1)) X
def dOr (t u : DT) : DT := fun δ M Q X => t δ M (fun b M1 => cond b (Q true M1) (u δ M1 Q X)) X
def dNot (t : DT) : DT := fun δ M Q X => t δ M (fun b M1 => Q (!b) M1) X
def dAndV (t u : DE) : DE := fun δ M Q X => t δ M (fun d M1 => asB d M1 fun b M1 => cond b (u δ M1 Q X) (Q (.bl false) M1)) X
def dOrV (t u : DE) : DE := fun δ M Q X => t δ M (fun d M1 => asB d M1 fun b M1 => cond b (Q (.bl true) M1) (u δ M1 Q X)) X
def dNotV (t : DE) : DE := fun δ M Q X => t δ M (fun d M1 => asB d M1 fun b M1 => Q (.bl (!b)) M1) X
def dIf (c : DT) (t u : DE) : DE := fun δ M Q X => c δ M (fun b M1 => cond b (t δ M1 Q X) (u δ M1 Q X)) X
section
variable {X : Cx} {W : WX} {a b c e : Expr} {ta tb tc te : DE} {t u tt : DT} {pos : Pos} {K : PySem.W.Frag} {rest : List Expr}
theorem pdw_and1 (ha : PDT X W a t) : PDW X W (.BoolOp .And [a] pos) t := pw_and1 ha
theorem pdw_or1 (ha : PDT X W a t) : PDW X W (.BoolOp .Or [a] pos) t := pw_or1 ha
theorem pdw_and (ha : PDT X W a t) (hb : PDW X W (.BoolOp .And (b :: rest) pos) u) : PDW X W (.BoolOp .And (a :: b :: rest) pos) (dAnd t u) :=
  PWw (pw_and ha hb) fun σ H Q ⟨G, M, δ, Q', X', ok, sl, h, hq, hx⟩ => ⟨G, M, δ, _, X', ok, sl, h, fun d M1 H1 G1 h1 ok1 e1 => by
    cases d with
    | true => rw [if_pos rfl]; exact ⟨G1, M1, δ, _, X', ok1, sl.mono e1, h1, fun d2 M2 H2 G2 h2 ok2 e2 => hq d2 M2 H2 G2 h2 ok2 (e1.trans e2), hx.mono e1⟩
    | false => rw [if_neg Bool.false_ne_true]; exact hq _ _ _ _ h1 ok1 e1, hx⟩
theorem pdw_or (ha : PDT X W a t) (hb : PDW X W (.BoolOp .Or (b :: rest) pos) u) : PDW X W (.BoolOp .Or (a :: b :: rest) pos) (dOr t u) :=
  PWw (pw_or ha hb) fun σ H Q ⟨G, M, δ, Q', X', ok, sl, h, hq, hx⟩ => ⟨G, M, δ, _, X', ok, sl, h, fun d M1 H1 G1 h1 ok1 e1 => by
    cases d with
    | false => rw [if_neg Bool.false_ne_true]; exact ⟨G1, M1, δ, _, X', ok1, sl.mono e1, h1, fun d2 M2 H2 G2 h2 ok2 e2 => hq d2 M2 H2 G2 h2 ok2 (e1.trans e2), hx.mono e1⟩
    | true => rw [if_pos rfl]; exact hq _ _ _ _ h1 ok1 e1, hx⟩
theorem pdt_w (h : PDW X W e t) : PDT X W e t := h.pt
theorem pdt_not (ha : PDT X W a t) : PDT X W (.UnaryOp .Not a pos) (dNot t) :=
  PTw (pt_not ha) fun σ H Q ⟨G, M, δ, Q', X', ok, sl, h, hq, hx⟩ => ⟨G, M, δ, _, X', ok, sl, h, fun d M1 H1 G1 h1 ok1 e1 => hq _ _ _ _ h1 ok1 e1, hx⟩
theorem pd_one {op} (h : PD X W a ta) : PD X W (.BoolOp op [a] pos) ta := pe_one h
theorem pd_and (ha : PD X W a ta) (hb : PD X W (.BoolOp .And (b :: rest) pos) tb) : PD X W (.BoolOp .And (a :: b :: rest) pos) (dAndV ta tb) :=
  PEw (pe_and ha hb) fun σ H Q ⟨G, M, δ, Q', X', ok, sl, h, hq, hx⟩ => ⟨G, M, δ, _, X', ok, sl, h, fun d M1 v H1 G1 h1 ok1 e1 r1 => by
    obtain ⟨k, ek, h2⟩ := asB_of h1 r1
    refine ⟨k, ek, ?_⟩
    cases k with
    | true => rw [if_pos rfl]; exact ⟨G1, M1, δ, _, X', ok1, sl.mono e1, h2, fun d2 M2 v2 H2 G2 h2 ok2 e2 r2 => hq d2 M2 v2 H2 G2 h2 ok2 (e1.trans e2) r2, hx.mono e1⟩
    | false => rw [if_neg Bool.false_ne_true]; exact hq _ _ _ _ _ h2 ok1 e1 (.bl _), hx⟩
theorem pd_or (ha : PD X W a ta) (hb : PD X W (.BoolOp .Or (b :: rest) pos) tb) : PD X W (.BoolOp .Or (a :: b :: rest) pos) (dOrV ta tb) :=
  PEw (pe_or ha hb) fun σ H Q ⟨G, M, δ, Q', X', ok, sl, h, hq, hx⟩ => ⟨G, M, δ, _, X', ok, sl, h, fun d M1 v H1 G1 h1 ok1 e1 r1 => by
    obtain ⟨k, ek, h2⟩ := asB_of h1 r1
    refine ⟨k, ek, ?_⟩
    cases k with
    | false => rw [if_neg Bool.false_ne_true]; exact ⟨G1, M1, δ, _, X', ok1, sl.mono e1, h2, fun d2 M2 v2 H2 G2 h2 ok2 e2 r2 => hq d2 M2 v2 H2 G2 h2 ok2 (e1.trans e2) r2, hx.mono e1⟩
    | true => rw [if_pos rfl]; exact hq _ _ _ _ _ h2 ok1 e1 (.bl _), hx⟩
theorem pd_not (ha : PD X W a ta) : PD X W (.UnaryOp .Not a pos) (dNotV ta) :=
  PEw (pe_not ha) fun σ H Q ⟨G, M, δ, Q', X', ok, sl, h, hq, hx⟩ => ⟨G, M, δ, _, X', ok, sl, h, fun d M1 v H1 G1 h1 ok1 e1 r1 => by
    obtain ⟨k, ek, h2⟩ := asB_of h1 r1
    exact ⟨k, ek, hq _ _ _ _ _ h2 ok1 e1 (.bl _)⟩, hx⟩
theorem pd_if (hc : PDT X W c tt) (ha : PD X W a ta) (hb : PD X W b tb) : PD X W (.IfExp c a b pos) (dIf tt ta tb) :=
  PEw (pe_ifExp hc ha hb) fun σ H Q ⟨G, M, δ, Q', X', ok, sl, h, hq, hx⟩ => ⟨G, M, δ, _, X', ok, sl, h, fun d M1 H1 G1 h1 ok1 e1 => by
    cases d with
    | true => rw [if_pos rfl]; exact ⟨G1, M1, δ, _, X', ok1, sl.mono e1, h1, fun d2 M2 v2 H2 G2 h2 ok2 e2 r2 => hq d2 M2 v2 H2 G2 h2 ok2 (e1.trans e2) r2, hx.mono e1⟩
    | false => rw [if_neg Bool.false_ne_true]; exact ⟨G1, M1, δ, _, X', ok1, sl.mono e1, h1, fun d2 M2 v2 H2 G2 h2 ok2 e2 r2 => hq d2 M2 v2 H2 G2 h2 ok2 (e1.trans e2) r2, hx.mono e1⟩, hx⟩
end
end DL

/-! The data layer: displays, subscripts, slices, built-ins, comprehensions -/
namespace DL
open PySem PySem.Spec PyProof.Rows L2

/-! ### arguments, displays -/
def dNil : DA := fun _ M Q _ => Q [] M
def dCons (t : DE) (u : DA) : DA := fun δ M Q X => t δ M (fun d M1 => u δ M1 (fun ds M2 => Q (d :: ds) M2) X) X
def few : Nat → List D → Prop
  | _, [] => True
  | 0, _ :: _ => False
  | n + 1, _ :: r => few n r
theorem few_le : ∀ {n : Nat} {ds : List D}, few n ds → ds.length ≤ n
  | _, [], _ => Nat.zero_le _
  | 0, _ :: _, h => h.elim
  | n + 1, _ :: r, h => Nat.succ_le_succ (few_le (ds := r) h)
theorem few_line {n : Nat} {ds : List D} (h : few n ds) (hn : n ≤ 1000 := by decide) : ds.length ≤ sizeLine := Nat.le_trans (few_le h) (Nat.le_of_lt (small1000 hn))
def dLst (t : DA) : DE := fun δ M Q X => t δ M (fun ds M1 => few 99 ds ∧ Q (.lst ds) M1) X
def dTup (t : DA) : DE := fun δ M Q X => t δ M (fun ds M1 => few 99 ds ∧ Q (.tup ds) M1) X
/-- a list that may change -/
def dLstM (t : DA) : DE := fun δ M Q X => t δ M (fun ds M1 => few 99 ds ∧ ∀ p, M1 p = none → Q (.obj p) (M1.set p (.lst ds))) X
/-- what an expression made is not changed any more -/
def frz (d : D) (M : Mem) (Q : QD) : Prop := match res M d, d with
  | .lst ds, .obj a => Q (.lst ds) (M.del a)
  | .dic kvs, .obj a => Q (.dic kvs) (M.del a)
  | _, .obj _ => False
  | _, d => Q d M
def dFrz (t : DE) : DE := fun δ M Q X => t δ M (fun d M1 => frz d M1 Q) X
section
variable {X : Cx} {W : WX} {a b c e : Expr} {es : List Expr} {ta tb te : DE} {t : DA} {pos : Pos} {K : PySem.W.Frag}
theorem pda_nil : PDA X W [] dNil := PAw pa_nil fun σ H Q ⟨G, M, δ, Q', X', ok, sl, h, hq, hx⟩ => hq _ M _ H G h ok (Same.refl _) .nil
theorem pda_cons (ha : PD X W e te) (hr : PDA X W es t) (hs : starEach (e :: es) X.env = (false, eval e X.env) :: starEach es X.env := by rfl) : PDA X W (e :: es) (dCons te t) :=
  PAw (pa_cons ha hr hs) fun σ H Q ⟨G, M, δ, Q', X', ok, sl, h, hq, hx⟩ => ⟨G, M, δ, _, X', ok, sl, h, fun d M1 v H1 G1 h1 ok1 e1 r1 => ⟨G1, M1, δ, _, X', ok1, sl.mono e1, h1, fun ds M2 vs H2 G2 h2 ok2 e2 r2 =>
    hq _ M2 _ H2 G2 h2 ok2 (e1.trans e2) (.cons (r1.mono e2) r2), hx.mono e1⟩, hx⟩
theorem pd_tup {x1} (h : PDA X W es t) : PD X W (.Tuple es x1 pos) (dTup t) :=
  PEw (pe_tup h) fun σ H Q ⟨G, M, δ, Q', X', ok, sl, h, hq, hx⟩ => ⟨G, M, δ, _, X', ok, sl, h, fun ds M1 vs H1 G1 h1 ok1 e1 r1 =>
    ⟨by rw [r1.len]; exact few_line h1.1, fun p hp => have gp := ok1.gnone hp; hq _ _ _ _ _ h1.2 (ok1.frozen hp) (e1.trans (same_upd gp)) (.tup upd_same (r1.mono (same_upd gp)) (few_line h1.1))⟩, hx⟩
theorem pd_lst (h : PDA X W es t) : PD X W (.List es pos) (dLst t) :=
  PEw (pe_lst h) fun σ H Q ⟨G, M, δ, Q', X', ok, sl, h, hq, hx⟩ => ⟨G, M, δ, _, X', ok, sl, h, fun ds M1 vs H1 G1 h1 ok1 e1 r1 =>
    ⟨by rw [r1.len]; exact few_line h1.1, fun p hp => have gp := ok1.gnone hp; hq _ _ _ _ _ h1.2 (ok1.frozen hp) (e1.trans (same_upd gp)) (.lst upd_same (r1.mono (same_upd gp)) (few_line h1.1))⟩, hx⟩
theorem pd_lstM (h : PDA X W es t) : PD X W (.List es pos) (dLstM t) :=
  PEw (pe_lst h) fun σ H Q ⟨G, M, δ, Q', X', ok, sl, h, hq, hx⟩ => ⟨G, M, δ, _, X', ok, sl, h, fun ds M1 vs H1 G1 h1 ok1 e1 r1 =>
    ⟨by rw [r1.len]; exact few_line h1.1, fun p hp => hq _ _ _ _ _ (h1.2 p (ok1.mnone hp)) (ok1.write (ok1.gnone hp) ⟨vs, upd_same, r1, few_line h1.1⟩) e1 (.obj p)⟩, hx⟩
theorem frz_of {G H : Hp} {M : Mem} {d : D} {v : V} {Q : QD} (ok : Ok K H G M) (r : Rep K G v d) (h : frz d M Q) : ∃ d' M' G', Q d' M' ∧ Ok K H G' M' ∧ Same G G' ∧ Rep K G' v d' := by
  unfold frz at h
  split at h
  · rename_i ds a e
    have m := Rep.obj_lst ok e
    obtain ⟨g, vs, h1, q, z⟩ := ok.mem _ _ m
    cases r
    exact ⟨_, _, _, h, ok.freeze m h1, same_upd g, .lst upd_same (q.mono (same_upd g)) z⟩
  · rename_i ds a e
    have m := Rep.obj_dic ok e
    obtain ⟨g, kv, h1, k, q⟩ := ok.mem _ _ m
    cases r
    exact ⟨_, _, _, h, ok.freeze m h1, same_upd g, .dic upd_same k (q.mono (same_upd g))⟩
  · exact h.elim
  · exact ⟨_, _, _, h, ok, Same.refl _, r⟩
theorem pd_frz (h : PD X W e te) : PD X W e (dFrz te) :=
  PEw h fun σ H Q ⟨G, M, δ, Q', X', ok, sl, h, hq, hx⟩ => ⟨G, M, δ, _, X', ok, sl, h, fun d M1 v H1 G1 h1 ok1 e1 r1 => by
    obtain ⟨d', M', G', h2, ok2, e2, r2⟩ := frz_of ok1 r1 h1
    exact hq _ _ _ _ _ h2 ok2 (e1.trans e2) r2, hx⟩
end

/-! ### a dict written -/
def dPairs : List (Str × DE) → DS → Mem → (List (Str × D) → Mem → Prop) → XD → Prop
  | [], _, M, Q, _ => Q [] M
  | (k, t) :: r, δ, M, Q, X => t δ M (fun d M1 => dPairs r δ M1 (fun ps M2 => Q ((k, d) :: ps) M2) X) X
/-- a dict that may change -/
def dDisp (ts : List (Str × DE)) : DE := fun δ M Q X => ∀ p, M p = none → dPairs ts δ (M.set p (.dic [])) (fun kvs M1 => M1 p = some (.dic []) ∧ few 15 (kvs.map (·.2)) ∧ (kvs.map (·.1)).Nodup ∧ Q (.obj p) (M1.set p (.dic kvs))) X
def dDic0 : DE := fun _ M Q _ => Q (.dic []) M
structure PDPs (X : Cx) (W : WX) (pos : Pos) (keys : List (Option Expr)) (values : List Expr) (ts : List (Str × DE)) : Prop where
  run : PPs X pos keys values (ts.map fun p => (tC (.str p.1), up X.K W p.2))
theorem merge_nodup : ∀ {more kvs : List (Key × V)}, ((kvs ++ more).map (·.1)).Nodup → mergeK kvs more = kvs ++ more
  | [], kvs, _ => by rw [List.append_nil]; rfl
  | kv :: r, kvs, h => by
    have hn : valV kvs kv.1 = none := by
      cases e : valV kvs kv.1 with
      | none => rfl
      | some v =>
        unfold valV at e
        cases q : kvs.find? (fun x => decide (x.1 = kv.1)) with
        | none => rw [q] at e; cases e
        | some x =>
          have h1 := List.mem_of_find?_eq_some q
          have h2 := List.find?_some q
          have h2 : x.1 = kv.1 := of_decide_eq_true h2
          rw [List.map_append, List.map_cons] at h
          have := (List.nodup_append.mp h).2.2 x.1 (List.mem_map_of_mem h1) kv.1 List.mem_cons_self
          exact absurd h2 this
    unfold mergeK
    rw [List.foldl_cons, putK_new _ hn]
    have h' : (((kvs ++ [kv]) ++ r).map (·.1)).Nodup := by rw [List.append_assoc]; exact h
    have ih := merge_nodup (more := r) (kvs := kvs ++ [kv]) h'
    unfold mergeK at ih
    rw [show (kv.1, kv.2) = kv from rfl, ih, List.append_assoc]
    rfl
section
variable {X : Cx} {W : WX} {e : Expr} {te : DE} {pos : Pos} {K : PySem.W.Frag} {ks : List (Option Expr)} {vs : List Expr} {ts : List (Str × DE)}
theorem pdp_nil : PDPs X W pos [] [] [] := ⟨pps_nil⟩
theorem pdp_cons {k : Str} {j : Nat} {kp : Pos} (hv : PD X W e te) (hr : PDPs X W pos ks vs ts) : PDPs X W pos (some (.Constant (.str k) j kp) :: ks) (e :: vs) ((k, te) :: ts) := ⟨pps_cons pe_str hv hr.run⟩
theorem up_pairs : ∀ {ts : List (Str × DE)} {σ : L2.St} {H G : Hp} {M : Mem} {δ : DS} {Q : List (V × V) → Hp → Prop} {Q' : List (Str × D) → Mem → Prop} {X' : XD}, Ok K H G M → Slots K G σ δ → dPairs ts δ M Q' X' → WOk K W G X' →
    (∀ kvs M' ps H' G', Q' kvs M' → Ok K H' G' M' → Same G G' → ps.map (·.1) = kvs.map (fun p => V.str p.1) → RepL K G' (ps.map (·.2)) (kvs.map (·.2)) → Q ps H') → tPairs (ts.map fun p => (tC (.str p.1), up K W p.2)) σ H Q
  | [], σ, H, G, M, δ, Q, Q', X', ok, sl, h, hx, hq => hq [] M [] H G h ok (Same.refl _) rfl .nil
  | (k, t) :: r, σ, H, G, M, δ, Q, Q', X', ok, sl, h, hx, hq =>
    ⟨G, M, δ, _, X', ok, sl, h, fun d M1 v H1 G1 h1 ok1 e1 r1 => up_pairs (ts := r) ok1 (sl.mono e1) h1 (hx.mono e1) fun kvs M2 ps H2 G2 h2 ok2 e2 k2 r2 => hq _ M2 _ H2 G2 h2 ok2 (e1.trans e2) (by rw [List.map_cons, List.map_cons, k2]) (.cons (r1.mono e2) r2), hx⟩
theorem key_pairs : ∀ {ps : List (V × V)} {kvs : List (Str × D)}, ps.map (·.1) = kvs.map (fun p => V.str p.1) → ∃ kk : List (Key × V), ps = kk.map (fun kv => (kV kv.1, kv.2)) ∧ kk.map (·.1) = kvs.map (fun p => (Sum.inr p.1 : Key)) ∧ kk.map (·.2) = ps.map (·.2)
  | [], [], _ => ⟨[], rfl, rfl, rfl⟩
  | [], _ :: _, h => by cases h
  | _ :: _, [], h => by cases h
  | (a, b) :: r, (k, d) :: s, h => by
    simp only [List.map_cons, List.cons.injEq] at h
    obtain ⟨h1, h2⟩ := h
    subst h1
    obtain ⟨kk, e1, e2, e3⟩ := key_pairs h2
    exact ⟨(Sum.inr k, b) :: kk, by rw [List.map_cons, e1]; rfl, by rw [List.map_cons, e2]; rfl, by rw [List.map_cons, e3]; rfl⟩
theorem pd_disp (h : PDPs X W pos ks vs ts) (hall : ks.all (·.isSome) = true := by rfl) (hl : ks.length = vs.length := by rfl) (h0 : ks ≠ [] := by exact fun z => nomatch z) (h15 : ks.length ≤ 15 := by decide) : PD X W (.Dict ks vs pos) (dDisp ts) :=
  PEw (pe_disp h.run hall hl h0 h15) fun σ H Q ⟨G, M, δ, Q', X', ok, sl, h, hq, hx⟩ p hp => by
    have gp := ok.gnone hp
    refine up_pairs (ok.write (o := .dK []) (m := .dic []) gp ⟨[], upd_same, rfl, .nil⟩) sl (h p (ok.mnone hp)) hx fun kvs M' ps H' G' h1 ok1 e1 k1 r1 => ?_
    obtain ⟨m, f, nd, h1⟩ := h1
    obtain ⟨g1, kv0, e2, e3, _⟩ := ok1.mem _ _ m
    have z : kv0 = [] := by cases kv0 with
      | nil => rfl
      | cons _ _ => cases e3
    subst z
    obtain ⟨kk, f1, f2, f3⟩ := key_pairs k1
    have nd' : ((([] : List (Key × V)) ++ kk).map (fun kv : Key × V => kv.1)).Nodup := by
      rw [List.nil_append, f2]
      rw [show kvs.map (fun p : Str × D => (Sum.inr p.1 : Key)) = (kvs.map (fun p : Str × D => p.1)).map (fun x : Str => (Sum.inr x : Key)) by rw [List.map_map]; rfl]
      exact List.Pairwise.map _ (fun (a b : Str) (hab : a ≠ b) (e : (Sum.inr a : Key) = Sum.inr b) => hab (Sum.inr.inj e)) nd
    have me := merge_nodup (kvs := []) nd'
    show H' p = some (.dK []) ∧ ∃ kvs : List (Key × V), ps = kvs.map (fun kv => (kV kv.1, kv.2)) ∧ kvs.length ≤ 15 ∧ Q (.ref p) (upd H' p (.dK (mergeK [] kvs)))
    refine ⟨e2, kk, f1, ?_, ?_⟩
    · have := few_le f
      rw [List.length_map] at this
      have l2 := congrArg List.length f2
      rw [List.length_map, List.length_map] at l2
      omega
    · rw [me, List.nil_append]
      exact hq _ _ _ _ _ h1 (ok1.write (m := .dic kvs) g1 ⟨kk, upd_same, f2, by rw [f3]; exact r1⟩) e1 (.obj p)
theorem pd_dic0 : PD X W (.Dict [] [] pos) dDic0 :=
  PEw pe_dnewK fun σ H Q ⟨G, M, δ, Q', X', ok, sl, h, hq, hx⟩ p hp => hq _ _ _ _ _ h (ok.frozen hp) (same_upd (ok.gnone hp)) (.dic upd_same rfl .nil)
end

/-! ### subscripts -/
def nth {α : Type} : List α → Int → Option α
  | xs, .ofNat n => xs[n]?
  | xs, .negSucc n => if n + 1 ≤ xs.length then xs[xs.length - (n + 1)]? else none
theorem nth_at {α : Type} {xs : List α} {i : Int} {v : α} (h : nth xs i = some v) : atI xs i = some v := by
  match i, h with
  | .ofNat n, h => exact atI_nat h
  | .negSucc n, h =>
    have h : (if n + 1 ≤ xs.length then xs[xs.length - (n + 1)]? else none) = some v := h
    by_cases hl : n + 1 ≤ xs.length
    · rw [if_pos hl] at h
      have e : (Int.negSucc n) + (xs.length : Int) = ((xs.length - (n + 1) : Nat) : Int) := by omega
      unfold atI ixN
      rw [if_neg (by omega), if_pos (by omega), e]
      exact h
    · rw [if_neg hl] at h; cases h
theorem nth_map {α β : Type} {g : α → β} {xs : List α} {i : Int} {v : α} (h : nth xs i = some v) : nth (xs.map g) i = some (g v) := by
  match i, h with
  | .ofNat n, h =>
    show (xs.map g)[n]? = _
    rw [List.getElem?_map, show xs[n]? = some v from h]; rfl
  | .negSucc n, h =>
    have h : (if n + 1 ≤ xs.length then xs[xs.length - (n + 1)]? else none) = some v := h
    show (if n + 1 ≤ (xs.map g).length then (xs.map g)[(xs.map g).length - (n + 1)]? else none) = _
    rw [List.length_map]
    by_cases hl : n + 1 ≤ xs.length
    · rw [if_pos hl] at h ⊢
      rw [List.getElem?_map, h]; rfl
    · rw [if_neg hl] at h; cases h
theorem RepL.nth {K : PySem.W.Frag} {G : Hp} {vs : List V} {ds : List D} {i : Int} {d : D} (q : RepL K G vs ds) (h : DL.nth ds i = some d) : ∃ v, DL.nth vs i = some v ∧ Rep K G v d := by
  match i, h with
  | .ofNat n, h => exact q.at h
  | .negSucc n, h =>
    have h : (if n + 1 ≤ ds.length then ds[ds.length - (n + 1)]? else none) = some d := h
    have hl := q.len
    show ∃ v, (if n + 1 ≤ vs.length then vs[vs.length - (n + 1)]? else none) = some v ∧ _
    rw [hl]
    by_cases hn : n + 1 ≤ ds.length
    · rw [if_pos hn] at h ⊢
      exact q.at h
    · rw [if_neg hn] at h; cases h
theorem nth_nat {α : Type} (xs : List α) (n : Nat) : nth xs (n : Int) = xs[n]? := rfl
theorem nth_toNat {α : Type} (xs : List α) {i : Int} (h : 0 ≤ i) : nth xs i = xs[i.toNat]? := by
  obtain ⟨n, rfl⟩ := Int.eq_ofNat_of_zero_le h
  rfl
def look : List (Str × D) → Str → Option D
  | [], _ => none
  | (k, d) :: r, x => if k = x then some d else look r x
theorem look_val {K : PySem.W.Frag} {G : Hp} {x : Str} {d : D} : ∀ {ds : List (Str × D)} {kv : List (Key × V)}, kv.map (·.1) = ds.map (fun p => (Sum.inr p.1 : Key)) → RepL K G (kv.map (·.2)) (ds.map (·.2)) → look ds x = some d → ∃ v, valV kv (Sum.inr x) = some v ∧ Rep K G v d
  | [], _, _, _, h => by cases h
  | (k, d') :: r, [], h, _, _ => by cases h
  | (k, d') :: r, (k', v') :: r', h1, h2, h3 => by
    simp only [List.map_cons, List.cons.injEq] at h1
    cases h2 with
    | cons q t =>
      unfold look at h3
      by_cases e : k = x
      · rw [if_pos e] at h3; cases h3
        exact ⟨v', valV_pos (by rw [h1.1, e]), q⟩
      · rw [if_neg e] at h3
        obtain ⟨v, e1, e2⟩ := look_val h1.2 t h3
        exact ⟨v, by rw [valV_neg (by rw [h1.1]; exact fun z => e (Sum.inr.inj z))]; exact e1, e2⟩
def oIx (x y : D) (M : Mem) (Q : QD) : Prop := match res M x, y with
  | .lst ds, .int i => el (nth ds i) fun d => Q d M
  | .tup ds, .int i => el (nth ds i) fun d => Q d M
  | .scr ns, .int i => el (nth ns i) fun n => Q (.int n) M
  | .str z, .int i => el (nth z.cps.toList i) fun c => Q (.str ⟨#[c]⟩) M
  | .dic kvs, .str k => el (look kvs k) fun d => Q d M
  | _, _ => False
section
variable {X : Cx} {W : WX} {a b e : Expr} {ta tb te : DE} {pos : Pos} {K : PySem.W.Frag}
theorem strOk_iff {z : Str} : strOk z = true ↔ (∀ c ∈ z.cps.toList, c < 0x110000) ∧ z.length ≤ sizeLine := by
  have e : PyData.strOk z = true ↔ ∀ c ∈ z.cps.toList, c < 0x110000 := by
    unfold PyData.strOk
    rw [← Array.all_toList, List.all_eq_true]
    exact ⟨fun h c hc => of_decide_eq_true (h c hc), fun h c hc => decide_eq_true (h c hc)⟩
  exact ⟨fun h => ⟨e.mp (strOk_snd h), strOk_len h⟩, fun h => strOk_mk (e.mpr h.1) h.2⟩
theorem strOk_one {z : Str} {c : Nat} (h : strOk z = true) (m : c ∈ z.cps.toList) : strOk ⟨#[c]⟩ = true := by
  refine strOk_iff.mpr ⟨fun c' hc => ?_, ?_⟩
  · have : c' = c := by simpa using hc
    subst this
    exact (strOk_iff.mp h).1 c' m
  · show 1 ≤ sizeLine
    rw [sizeLine_eq]; decide
def rIxD : R2 := fun x y H Q => ∃ a v, x = .ref a ∧ DGet H a y (some v) ∧ Q v H
theorem ix_dict (hu : X.A.units + 1 < cLine) : IxR X rIxD := by
  intro value slice pins s σ H x y v u Q I rx ry h hs
  obtain ⟨a, z, rfl, g, q⟩ := h
  cases rx
  exact tail_any (dict_typeIs I g) PySem.F.slot_dict_getitem.lookup (d_getItem hu I g ry fun w' s3 I3 rw' => ⟨z, H, I3, rw', q⟩) hs
def rIxA (K : PySem.W.Frag) : R2 := fun x y H Q => rIx K x y H Q ∨ rIxD x y H Q
theorem l_ix : LOp K (rIxA K) oIx := by
  intro x y H G M dx dy Q Q' ok rx ry h hq
  unfold oIx at h
  split at h
  · rename_i ds i e
    obtain ⟨d, e1, h⟩ := el_of h
    obtain ⟨a, vs, f, h1, q, z⟩ := rx.lstOf ok e
    cases ry
    obtain ⟨v, e2, r⟩ := q.nth e1
    exact .inl (.inl ⟨a, vs, i, v, f, rfl, SqL.of h1, nth_at e2, hq _ _ _ _ _ h ok (Same.refl _) r⟩)
  · rename_i ds i e
    obtain ⟨d, e1, h⟩ := el_of h
    obtain ⟨a, vs, f, h1, q, z⟩ := rx.tupOf ok e
    cases ry
    obtain ⟨v, e2, r⟩ := q.nth e1
    exact .inl (.inr (.inl ⟨a, vs, i, v, f, rfl, SqT.of h1, nth_at e2, hq _ _ _ _ _ h ok (Same.refl _) r⟩))
  · rename_i ns i e
    obtain ⟨n, e1, h⟩ := el_of h
    obtain ⟨a, f, h1⟩ := rx.scrOf ok e
    cases ry
    exact .inl (.inl ⟨a, _, i, .int n, f, rfl, h1, nth_at (nth_map e1), hq _ _ _ _ _ h ok (Same.refl _) (.int _)⟩)
  · rename_i z i e
    obtain ⟨c, e1, h⟩ := el_of h
    obtain ⟨f, k⟩ := rx.strOf e
    have hz := strOk_len k
    cases ry
    obtain ⟨j, f1, f2, _⟩ := atI_get (nth_at e1)
    exact .inl (.inr (.inr ⟨z, i, c, f, rfl, hz, nth_at e1, hq _ _ _ _ _ h ok (Same.refl _) (.str _ (strOk_one k (List.mem_of_getElem? f2)))⟩))
  · rename_i kvs k e
    obtain ⟨d, e1, h⟩ := el_of h
    obtain ⟨a, kv, f, h1, k1, q⟩ := rx.dicOf ok e
    cases ry
    obtain ⟨v, e2, r⟩ := look_val k1 q e1
    exact .inr ⟨a, v, f, .inl ⟨kv, .inr k, .inl h1, rfl, e2.symm⟩, hq _ _ _ _ _ h ok (Same.refl _) r⟩
  · exact h.elim
theorem pd_ix (hu : X.A.units + 1 < cLine) (ha : PD X W a ta) (hb : PD X W b tb) (hs : PlainIx b := by exact fun _ _ => rfl) : PD X W (.Subscript a b pos) (dOp oIx ta tb) :=
  PEw (pe_ix (IxR.or ix_seq (ix_dict hu)) ha hb hs) fun _ _ _ h => up_op l_ix h
end

/-! ### slices -/
def dNoPart : DO := fun _ M Q _ => Q none M
def dPart (t : DE) : DO := fun δ M Q X => t δ M (fun d M1 => match d with | .int i => Q (some i) M1 | _ => False) X
def dcut {α : Type} (xs : List α) (lo hi : Option Int) : List α := (xs.drop (HT.sIx xs.length 0 lo)).take (HT.sIx xs.length xs.length hi - HT.sIx xs.length 0 lo)
def oSl (x : D) (lo hi : Option Int) (M : Mem) (Q : QD) : Prop := match res M x with
  | .lst ds => Q (.lst (dcut ds lo hi)) M
  | .tup ds => Q (.tup (dcut ds lo hi)) M
  | .str z => Q (.str (cutS z lo hi)) M
  | _ => False
def dSl (t : DE) (tl th : DO) : DE := fun δ M Q X => t δ M (fun x M1 => tl δ M1 (fun lo M2 => th δ M2 (fun hi M3 => oSl x lo hi M3 Q) X) X) X
section
variable {X : Cx} {W : WX} {e : Expr} {te : DE} {tl th : DO} {pos p2 : Pos} {K : PySem.W.Frag} {lo hi : Option Expr}
theorem pdo_none : PDO X W none dNoPart := ⟨fun pins s σ H Q I ⟨G, M, δ, Q', X', ok, sl, h, hq, hx⟩ => (po_none (X := X)).run pins s σ H Q I (hq none M H G h ok (Same.refl _))⟩
theorem pdo_some (h : PD X W e te) : PDO X W (some e) (dPart te) := ⟨fun pins s σ H Q I ⟨G, M, δ, Q', X', ok, sl, h', hq, hx⟩ => (po_some h).run pins s σ H Q I ⟨G, M, δ, _, X', ok, sl, h', fun d M1 v H1 G1 h1 ok1 e1 r1 => by
    cases r1 with
    | int i => exact ⟨_, rfl, hq _ _ _ _ h1 ok1 e1⟩
    | _ => exact h1.elim, hx⟩⟩
theorem strOk_cut {z : Str} {lo hi : Option Int} (h : strOk z = true) : strOk (cutS z lo hi) = true := by
  rw [strOk_iff] at h ⊢
  refine ⟨fun c hc => h.1 c (List.mem_of_mem_drop (List.mem_of_mem_take (by simpa [cutS] using hc))), Nat.le_trans (cutS_length z lo hi) h.2⟩
theorem RepL.cut {G : Hp} {vs : List V} {ds : List D} (r : RepL K G vs ds) (lo hi : Option Int) : RepL K G (cutV vs lo hi) (dcut ds lo hi) := by
  unfold cutV dcut
  rw [r.len]
  exact (r.drop _).take _
theorem dcut_len {α : Type} (xs : List α) (lo hi : Option Int) : (dcut xs lo hi).length ≤ xs.length := by
  unfold dcut
  rw [List.length_take, List.length_drop]
  omega
def rSlAll (K : PySem.W.Frag) : V → Option Int → Option Int → Hp → VK → Prop := fun x lo hi H Q => rSlL K x lo hi H Q ∨ (rSlA K x lo hi H Q ∨ rSlS x lo hi H Q)
theorem sl_all : SlR X (rSlAll X.K) := SlR.or sl_list (SlR.or sl_tupA sl_str)
theorem pd_slice (he : PD X W e te) (hl : PDO X W lo tl) (hh : PDO X W hi th) : PD X W (.Subscript e (.Slice lo hi none p2) pos) (dSl te tl th) :=
  PEw (pe_slice sl_all he hl hh) fun σ H Q ⟨G, M, δ, Q', X', ok, sl, h, hq, hx⟩ => ⟨G, M, δ, _, X', ok, sl, h, fun d M1 v H1 G1 h1 ok1 e1 r1 =>
    ⟨G1, M1, δ, _, X', ok1, sl.mono e1, h1, fun lo M2 H2 G2 h2 ok2 e2 => ⟨G2, M2, δ, _, X', ok2, (sl.mono e1).mono e2, h2, fun hi M3 H3 G3 h3 ok3 e3 => by
      have r3 := (r1.mono e2).mono e3
      unfold oSl at h3
      have ex := e1.trans (e2.trans e3)
      split at h3
      · rename_i ds e
        obtain ⟨a, vs, f, hH, q, z⟩ := r3.lstOf ok3 e
        refine .inl ⟨a, vs, f, SqL.of hH, fun p hp => ?_⟩
        have gp := ok3.gnone hp
        exact hq _ _ _ _ _ h3 (ok3.frozen hp) (ex.trans (same_upd gp)) (.lst upd_same ((q.cut lo hi).mono (same_upd gp)) (Nat.le_trans (dcut_len _ _ _) z))
      · rename_i ds e
        obtain ⟨a, vs, f, hH, q, z⟩ := r3.tupOf ok3 e
        refine .inr (.inl ⟨a, vs, f, SqT.of hH, fun hw => ?_, fun hw p hp => ?_⟩)
        · have ed := res_tup e
          subst ed
          subst f
          have hl := q.len
          rw [hl] at hw
          have : dcut ds lo hi = ds := by
            unfold dcut
            rw [hw.1, hw.2, List.drop_zero, Nat.sub_zero, List.take_length]
          rw [this] at h3
          exact hq _ _ _ _ _ h3 ok3 ex r3
        · have gp := ok3.gnone hp
          exact hq _ _ _ _ _ h3 (ok3.frozen hp) (ex.trans (same_upd gp)) (.tup upd_same ((q.cut lo hi).mono (same_upd gp)) (Nat.le_trans (dcut_len _ _ _) z))
      · rename_i z e
        obtain ⟨f, k⟩ := r3.strOf e
        exact .inr (.inr ⟨z, f, strOk_len k, hq _ _ _ _ _ h3 ok3 ex (.str _ (strOk_cut k))⟩)
      · exact h3.elim, hx.mono (e1.trans e2)⟩, hx.mono e1⟩, hx⟩
end
end DL

/-! The data layer: built-in calls, methods, what is walked, comprehensions -/
namespace DL
open PySem PySem.Spec PyProof.Rows L2

def dCall (o : List D → Mem → QD → Prop) (t : DA) : DE := fun δ M Q X => t δ M (fun ds M1 => o ds M1 Q) X
def LCall (K : PySem.W.Frag) (r : List V → Hp → VK → Prop) (o : List D → Mem → QD → Prop) : Prop := ∀ (vs : List V) (H G : Hp) (M : Mem) (ds : List D) (Q : VK) (Q' : QD), Ok K H G M → RepL K G vs ds → o ds M Q' →
  (∀ d M' v H' G', Q' d M' → Ok K H' G' M' → Same G G' → Rep K G' v d → Q v H') → r vs H Q
section
variable {X : Cx} {W : WX} {x : Str} {p pos : Pos} {e : Expr} {es : List Expr} {t : DA} {id T : String} {r : List V → Hp → VK → Prop} {o : List D → Mem → QD → Prop} {K : PySem.W.Frag}
theorem up_call (l : LCall K r o) {σ : L2.St} {H : Hp} {Q : VK} (h : up K W (dCall o t) σ H Q) : tCB r (upA K W t) σ H Q := by
  obtain ⟨G, M, δ, Q', X', ok, sl, h, hq, hx⟩ := h
  exact ⟨G, M, δ, _, X', ok, sl, h, fun ds M1 vs H1 G1 h1 ok1 e1 r1 => l vs H1 G1 M1 ds Q Q' ok1 r1 h1 fun d3 M3 v3 H3 G3 h3 ok3 e3 r3 => hq d3 M3 v3 H3 G3 h3 ok3 (e1.trans e3) r3, hx⟩
theorem pd_callB (hc : CallR X (.builtin id) r) (l : LCall X.K r o) (hg : Gl X x) (hm : X.mg x = none) (hv : bootBuiltins x = some (.builtin id)) (ha : PDA X W (e :: es) t) (hn : x ≠ "__name__" := by decide) (hdb : (x == ("__debug__" : Str)) = false := by decide)
    (he : starEach (e :: es) X.env = (false, eval e X.env) :: starEach es X.env := by rfl) (hpl : (backTo pos (starEach es X.env)).any (·.1) = false := by rfl) : PD X W (.Call (.Name x p) (e :: es) [] pos) (dCall o t) :=
  PEw (pe_callB hc hg hm hv ha hn hdb he hpl) fun _ _ _ h => up_call l h
theorem pd_callTy (hc : CallR X (.type T) r) (l : LCall X.K r o) (hg : Gl X x) (hm : X.mg x = none) (hv : bootBuiltins x = some (.type T)) (ha : PDA X W (e :: es) t) (hn : x ≠ "__name__" := by decide) (hdb : (x == ("__debug__" : Str)) = false := by decide)
    (he : starEach (e :: es) X.env = (false, eval e X.env) :: starEach es X.env := by rfl) (hpl : (backTo pos (starEach es X.env)).any (·.1) = false := by rfl) : PD X W (.Call (.Name x p) (e :: es) [] pos) (dCall o t) :=
  PEw (pe_callTy hc hg hm hv ha hn hdb he hpl) fun _ _ _ h => up_call l h
theorem pd_bltn {n : String} {pos : Pos} (hg : Gl X x) (hm : X.mg x = none) (hv : bootBuiltins x = some (.type n)) (hn : x ≠ "__name__" := by decide) (hd : (x == ("__debug__" : Str)) = false := by decide) : PD X W (.Name x pos) (dC (.ty n)) :=
  pd_c (pe_bltn (v := .ty n) hg hm hv rfl hn hd) fun _ => .ty n
theorem pd_cls {C : Addr} {pos : Pos} (hg : Gl X x) (hm : X.mg x = some (.ref C)) (hd : (x == ("__debug__" : Str)) = false := by decide) : PD X W (.Name x pos) (dC (.obj C)) := pd_glob (v := .ref C) hg hm rfl (fun _ => .obj C) hd
end

def on1 (F : D → Mem → QD → Prop) (ds : List D) (M : Mem) (Q : QD) : Prop := match ds with
  | [d] => F (res M d) M Q
  | _ => False
def on2 (F : D → D → Mem → QD → Prop) (ds : List D) (M : Mem) (Q : QD) : Prop := match ds with
  | [d, e] => F (res M d) (res M e) M Q
  | _ => False
def lenD (d : D) (M : Mem) (Q : QD) : Prop := match d with
  | .lst ds => Q (.int ds.length) M
  | .tup ds => Q (.int ds.length) M
  | .scr ns => Q (.int ns.length) M
  | .str z => Q (.int z.length) M
  | _ => False
def intD (d : D) (M : Mem) (Q : QD) : Prop := match d with
  | .int i => Q (.int i) M
  | .bl k => Q (.int (cond k 1 0)) M
  | _ => False
def strD (d : D) (M : Mem) (Q : QD) : Prop := match d with
  | .int i => 0 ≤ i ∧ i < 1000000000 ∧ Q (.str (toString i)) M
  | _ => False
def int2 (g : Int → Int → Int) (d e : D) (M : Mem) (Q : QD) : Prop := match d, e with
  | .int i, .int j => Q (.int (g i j)) M
  | _, _ => False
def sumD (d : D) (M : Mem) (Q : QD) : Prop := ∃ ns : List Int, d = .lst (ns.map .int) ∧ Q (.int ns.sum) M
def maxD (d : D) (M : Mem) (Q : QD) : Prop := ∃ ns : List Int, d = .lst (ns.map .int) ∧ 0 < ns.length ∧ ∀ m, m ∈ ns → (∀ y, y ∈ ns → y ≤ m) → Q (.int m) M
/-- list(x), a list that may change -/
def listM (d : D) (M : Mem) (Q : QD) : Prop := match d with
  | .lst ds => ∀ p, M p = none → Q (.obj p) (M.set p (.lst ds))
  | .tup ds => ∀ p, M p = none → Q (.obj p) (M.set p (.lst ds))
  | _ => False
def listF (d : D) (M : Mem) (Q : QD) : Prop := match d with
  | .lst ds => Q (.lst ds) M
  | .tup ds => Q (.lst ds) M
  | _ => False
def dictM (d : D) (M : Mem) (Q : QD) : Prop := match d with
  | .dic kvs => ∀ p, M p = none → Q (.obj p) (M.set p (.dic kvs))
  | _ => False
/-- isinstance of data -/
def isB (n : String) (d : D) : Option Bool := match d with
  | .non => kitB "NoneType" n
  | .bl _ => kitB "bool" n
  | .int _ => kitB "int" n
  | .str _ => kitB "str" n
  | .lst _ => kitB "list" n
  | .tup _ => kitB "tuple" n
  | .dic _ => kitB "dict" n
  | _ => none
def isiD (d e : D) (M : Mem) (Q : QD) : Prop := match e with
  | .ty n => el (isB n d) fun b => Q (.bl b) M
  | _ => False

section
variable {K : PySem.W.Frag} {X : Cx}
theorem l_on1 {F : D → Mem → QD → Prop} {r : V → Hp → VK → Prop} (h : ∀ (v : V) (H G : Hp) (M : Mem) (d d' : D) (Q : VK) (Q' : QD), Ok K H G M → Rep K G v d → res M d = d' → F d' M Q' →
    (∀ d M' v H' G', Q' d M' → Ok K H' G' M' → Same G G' → Rep K G' v d → Q v H') → r v H Q) : LCall K (fun vs H Q => ∃ v, vs = [v] ∧ r v H Q) (on1 F) := by
  intro vs H G M ds Q Q' ok rl ho hq
  unfold on1 at ho
  split at ho
  · cases rl with
    | cons a b =>
      cases b
      exact ⟨_, rfl, h _ _ _ _ _ _ _ _ ok a rfl ho hq⟩
  · exact ho.elim
theorem l_on2 {F : D → D → Mem → QD → Prop} {r : V → V → Hp → VK → Prop} (h : ∀ (v w : V) (H G : Hp) (M : Mem) (d d' e e' : D) (Q : VK) (Q' : QD), Ok K H G M → Rep K G v d → Rep K G w e → res M d = d' → res M e = e' → F d' e' M Q' →
    (∀ d M' v H' G', Q' d M' → Ok K H' G' M' → Same G G' → Rep K G' v d → Q v H') → r v w H Q) : LCall K (fun vs H Q => ∃ v w, vs = [v, w] ∧ r v w H Q) (on2 F) := by
  intro vs H G M ds Q Q' ok rl ho hq
  unfold on2 at ho
  split at ho
  · cases rl with
    | cons a b =>
      cases b with
      | cons b c =>
        cases c
        exact ⟨_, _, rfl, h _ _ _ _ _ _ _ _ _ _ _ ok a b rfl rfl ho hq⟩
  · exact ho.elim
theorem LCall.imp {r r' : List V → Hp → VK → Prop} {o : List D → Mem → QD → Prop} (l : LCall K r o) (h : ∀ vs H Q, r vs H Q → r' vs H Q) : LCall K r' o := fun vs H G M ds Q Q' ok rl ho hq => h _ _ _ (l vs H G M ds Q Q' ok rl ho hq)
theorem l_len : LCall K (fun xs H Q => ∃ x n, xs = [x] ∧ LenV K x H n ∧ Q (.int n) H) (on1 lenD) := by
  refine LCall.imp (l_on1 (r := fun x H Q => ∃ n, LenV K x H n ∧ Q (.int n) H) fun v H G M d d' Q Q' ok rv e h hq => ?_) fun vs H Q ⟨v, e, n, h⟩ => ⟨v, n, e, h⟩
  unfold lenD at h
  split at h
  · obtain ⟨a, vs, f, h1, q, z⟩ := rv.lstOf ok e
    subst f
    exact ⟨_, .inl ⟨_, SqL.of h1, q.len.symm⟩, hq _ _ _ _ _ h ok (Same.refl _) (.int _)⟩
  · obtain ⟨a, vs, f, h1, q, z⟩ := rv.tupOf ok e
    subst f
    exact ⟨_, .inr ⟨_, SqT.of h1, q.len.symm⟩, hq _ _ _ _ _ h ok (Same.refl _) (.int _)⟩
  · obtain ⟨a, f, h1⟩ := rv.scrOf ok e
    subst f
    exact ⟨_, .inl ⟨_, h1, by rw [List.length_map]⟩, hq _ _ _ _ _ h ok (Same.refl _) (.int _)⟩
  · obtain ⟨f, k⟩ := rv.strOf e
    subst f
    exact ⟨_, ⟨strOk_len k, rfl⟩, hq _ _ _ _ _ h ok (Same.refl _) (.int _)⟩
  · exact h.elim
theorem l_int1 : LCall K (fun xs H Q => (∃ i, xs = [.int i] ∧ Q (.int i) H) ∨ ∃ k, xs = [.bl k] ∧ Q (.int (if k then 1 else 0)) H) (on1 intD) := by
  refine LCall.imp (l_on1 (r := fun x H Q => (∃ i, x = .int i ∧ Q (.int i) H) ∨ ∃ k, x = .bl k ∧ Q (.int (if k then 1 else 0)) H) fun v H G M d d' Q Q' ok rv e h hq => ?_) fun vs H Q ⟨v, e, h⟩ => by
    subst e
    rcases h with ⟨i, e, h⟩ | ⟨i, e, h⟩
    · exact .inl ⟨i, by rw [e], h⟩
    · exact .inr ⟨i, by rw [e], h⟩
  unfold intD at h
  split at h
  · exact .inl ⟨_, rv.intOf e, hq _ _ _ _ _ h ok (Same.refl _) (.int _)⟩
  · rename_i k
    refine .inr ⟨k, rv.blOf e, ?_⟩
    have : (if k = true then (1 : Int) else 0) = cond k 1 0 := by cases k <;> rfl
    rw [this]
    exact hq _ _ _ _ _ h ok (Same.refl _) (.int _)
  · exact h.elim
theorem strOk_num {i : Int} (h0 : 0 ≤ i) (h1 : i < 1000000000) : strOk (toString i : String) = true := by
  obtain ⟨n, rfl⟩ := Int.eq_ofNat_of_zero_le h0
  have e := TL.tl_num n
  have e : (Str.ofString (toString ((n : Nat) : Int))).cps.toList = TL.numL n := e
  have hl := TL.numL_len (n := n) (k := 9) (by decide) (by omega)
  refine strOk_iff.mpr ⟨fun c hc => ?_, ?_⟩
  · rw [e] at hc
    have := TL.numL_digits n c hc
    omega
  · have : (Str.ofString (toString ((n : Nat) : Int))).length = (TL.numL n).length := by rw [← e, Array.length_toList]; rfl
    rw [this, sizeLine_eq]
    omega
theorem log_small {i : Int} (h0 : 0 ≤ i) (h1 : i < 1000000000) : i.natAbs.log2 < 1920 := by
  by_cases hz : i.natAbs = 0
  · rw [hz]; decide
  · refine (Nat.log2_lt hz).mpr (Nat.lt_of_lt_of_le (show i.natAbs < 2 ^ 30 by omega) (Nat.pow_le_pow_right (by decide) (by decide)))
theorem l_str1 : LCall K (fun xs H Q => ∃ i, xs = [.int i] ∧ i.natAbs.log2 < 1920 ∧ Q (.str (toString i)) H) (on1 strD) := by
  refine LCall.imp (l_on1 (r := fun x H Q => ∃ i : Int, x = .int i ∧ i.natAbs.log2 < 1920 ∧ Q (.str (toString i)) H) fun v H G M d d' Q Q' ok rv e h hq => ?_) fun vs H Q ⟨v, e, i, f, h⟩ => ⟨i, by rw [e, f], h⟩
  unfold strD at h
  split at h
  · obtain ⟨h0, h1, h⟩ := h
    exact ⟨_, rv.intOf e, log_small h0 h1, hq _ _ _ _ _ h ok (Same.refl _) (.str _ (strOk_num h0 h1))⟩
  · exact h.elim
theorem l_int2 {g : Int → Int → Int} : LCall K (fun xs H Q => ∃ i j, xs = [.int i, .int j] ∧ Q (.int (g i j)) H) (on2 (int2 g)) := by
  refine LCall.imp (l_on2 (r := fun x y H Q => ∃ i j, x = .int i ∧ y = .int j ∧ Q (.int (g i j)) H) fun v w H G M d d' d2 d2' Q Q' ok rv rw' e e2 h hq => ?_) fun vs H Q ⟨v, w, e, i, j, f, f2, h⟩ => ⟨i, j, by rw [e, f, f2], h⟩
  unfold int2 at h
  split at h
  · exact ⟨_, _, rv.intOf e, rw'.intOf e2, hq _ _ _ _ _ h ok (Same.refl _) (.int _)⟩
  · exact h.elim
theorem reps_ints {G : Hp} : ∀ {ns : List Int} {vs : List V}, RepL K G vs (ns.map D.int) → vs = ns.map V.int
  | [], _, .nil => rfl
  | i :: r, _, .cons (.int _) t => by rw [List.map_cons, ← reps_ints t]
theorem l_sum : LCall K (rSum K) (on1 sumD) := by
  refine LCall.imp (l_on1 (r := fun x H Q => ∃ (a : Addr) (ns : List Int), x = .ref a ∧ SqL K H a (ns.map V.int) ∧ Q (.int ns.sum) H) fun v H G M d d' Q Q' ok rv e h hq => ?_) fun vs H Q ⟨v, e, a, ns, f, h⟩ => ⟨a, ns, by rw [e, f], h⟩
  obtain ⟨ns, f, h⟩ := h
  subst f
  obtain ⟨a, vs, f, h1, q, z⟩ := rv.lstOf ok e
  have := reps_ints q
  subst this
  exact ⟨a, ns, f, SqL.of h1, hq _ _ _ _ _ h ok (Same.refl _) (.int _)⟩
theorem l_max : LCall K (rMax K) (on1 maxD) := by
  refine LCall.imp (l_on1 (r := fun x H Q => ∃ (a : Addr) (ns : List Int), x = .ref a ∧ SqL K H a (ns.map V.int) ∧ 0 < ns.length ∧ ∀ m, m ∈ ns → (∀ y, y ∈ ns → y ≤ m) → Q (.int m) H) fun v H G M d d' Q Q' ok rv e h hq => ?_) fun vs H Q ⟨v, e, a, ns, f, h⟩ => ⟨a, ns, by rw [e, f], h⟩
  obtain ⟨ns, f, hz, h⟩ := h
  subst f
  obtain ⟨a, vs, f, h1, q, z⟩ := rv.lstOf ok e
  have := reps_ints q
  subst this
  exact ⟨a, ns, f, SqL.of h1, hz, fun m h1 h2 => hq _ _ _ _ _ (h m h1 h2) ok (Same.refl _) (.int _)⟩
abbrev rListOf (K : PySem.W.Frag) : List V → Hp → VK → Prop := fun xs H Q => ∃ p ys, xs = [.ref p] ∧ (SqL K H p ys ∨ SqT K H p ys) ∧ ∀ l, H l = none → Q (.ref l) (upd H l (.lst ys))
theorem l_listM : LCall K (rListOf K) (on1 listM) := by
  refine LCall.imp (l_on1 (r := fun x H Q => ∃ p ys, x = .ref p ∧ (SqL K H p ys ∨ SqT K H p ys) ∧ ∀ l, H l = none → Q (.ref l) (upd H l (.lst ys))) fun v H G M d d' Q Q' ok rv e h hq => ?_) fun vs H Q ⟨v, e, a, ns, f, h⟩ => ⟨a, ns, by rw [e, f], h⟩
  unfold listM at h
  split at h
  · obtain ⟨a, vs, f, h1, q, z⟩ := rv.lstOf ok e
    exact ⟨a, vs, f, .inl (SqL.of h1), fun l hl => hq _ _ _ _ _ (h l (ok.mnone hl)) (ok.write (m := .lst _) (ok.gnone hl) ⟨vs, upd_same, q, z⟩) (Same.refl _) (.obj l)⟩
  · obtain ⟨a, vs, f, h1, q, z⟩ := rv.tupOf ok e
    exact ⟨a, vs, f, .inr (SqT.of h1), fun l hl => hq _ _ _ _ _ (h l (ok.mnone hl)) (ok.write (m := .lst _) (ok.gnone hl) ⟨vs, upd_same, q, z⟩) (Same.refl _) (.obj l)⟩
  · exact h.elim
theorem l_listF : LCall K (rListOf K) (on1 listF) := by
  refine LCall.imp (l_on1 (r := fun x H Q => ∃ p ys, x = .ref p ∧ (SqL K H p ys ∨ SqT K H p ys) ∧ ∀ l, H l = none → Q (.ref l) (upd H l (.lst ys))) fun v H G M d d' Q Q' ok rv e h hq => ?_) fun vs H Q ⟨v, e, a, ns, f, h⟩ => ⟨a, ns, by rw [e, f], h⟩
  unfold listF at h
  split at h
  · obtain ⟨a, vs, f, h1, q, z⟩ := rv.lstOf ok e
    exact ⟨a, vs, f, .inl (SqL.of h1), fun l hl => hq _ _ _ _ _ h (ok.frozen hl) (same_upd (ok.gnone hl)) (.lst upd_same (q.mono (same_upd (ok.gnone hl))) z)⟩
  · obtain ⟨a, vs, f, h1, q, z⟩ := rv.tupOf ok e
    exact ⟨a, vs, f, .inr (SqT.of h1), fun l hl => hq _ _ _ _ _ h (ok.frozen hl) (same_upd (ok.gnone hl)) (.lst upd_same (q.mono (same_upd (ok.gnone hl))) z)⟩
  · exact h.elim
abbrev rDictOf : List V → Hp → VK → Prop := fun xs H Q => ∃ (a : Addr) (kvs : List (Key × V)), xs = [.ref a] ∧ Rd H a (.dK kvs) ∧ ∀ p, H p = none → Q (.ref p) (upd H p (.dK kvs))
theorem l_dictM : LCall K rDictOf (on1 dictM) := by
  refine LCall.imp (l_on1 (r := fun x H Q => ∃ (a : Addr) (kvs : List (Key × V)), x = .ref a ∧ Rd H a (.dK kvs) ∧ ∀ p, H p = none → Q (.ref p) (upd H p (.dK kvs))) fun v H G M d d' Q Q' ok rv e h hq => ?_) fun vs H Q ⟨v, e, a, ns, f, h⟩ => ⟨a, ns, by rw [e, f], h⟩
  unfold dictM at h
  split at h
  · obtain ⟨a, kv, f, h1, k, q⟩ := rv.dicOf ok e
    exact ⟨a, kv, f, .inl h1, fun l hl => hq _ _ _ _ _ (h l (ok.mnone hl)) (ok.write (m := .dic _) (ok.gnone hl) ⟨kv, upd_same, k, q⟩) (Same.refl _) (.obj l)⟩
  · exact h.elim
theorem l_isi : LCall K (rIsi K) (on2 isiD) := by
  refine LCall.imp (l_on2 (r := fun x c H Q => ∃ (t u : Value) (b : Bool), ClsV c u ∧ TyX K H x t ∧ PySem.W.kitOne K t u = some b ∧ Q (.bl b) H) fun v w H G M d d' d2 d2' Q Q' ok rv rw' e e2 h hq => ?_) fun vs H Q ⟨v, w, e, t, u, b, h⟩ => ⟨v, w, t, u, b, e, h⟩
  unfold isiD at h
  split at h
  · rename_i n
    obtain ⟨b, eb, h⟩ := el_of h
    have ew : w = .ty n := by
      cases rw' with
      | ty => cases e2; rfl
      | obj a => rcases resO_ne e2 with ⟨_, z⟩ | ⟨_, z⟩ | z <;> cases z
      | _ => cases e2
    subst ew
    have fin : ∀ {ty : String}, TyX K H v (.type ty) → kitB ty n = some b → ∃ (t u : Value) (b : Bool), ClsV (.ty n) u ∧ TyX K H v t ∧ PySem.W.kitOne K t u = some b ∧ Q (.bl b) H := fun {ty} k1 k2 =>
      ⟨_, _, b, .ty n, k1, kit_ty k2, hq _ _ _ _ _ h ok (Same.refl _) (.bl _)⟩
    unfold isB at eb
    split at eb
    · cases rv.nonOf e; exact fin (.base .non) eb
    · cases rv.blOf e; exact fin (.base (.bl _)) eb
    · cases rv.intOf e; exact fin (.base (.int _)) eb
    · obtain ⟨f, _⟩ := rv.strOf e; subst f; exact fin (.base (.str _)) eb
    · obtain ⟨a, vs, f, h1, q, z⟩ := rv.lstOf ok e; subst f; exact fin (.base (.lst h1)) eb
    · obtain ⟨a, vs, f, h1, q, z⟩ := rv.tupOf ok e; subst f; exact fin (.base (.tup h1)) eb
    · obtain ⟨a, kv, f, h1, k, q⟩ := rv.dicOf ok e; subst f; exact fin (.base (.dK h1)) eb
    · cases eb
  · exact h.elim
end

/-! ### methods of built-in types -/
def elL : Option MO → (List D → Prop) → Prop
  | some (.lst ds), F => F ds
  | _, _ => False
theorem elL_of {o : Option MO} {F : List D → Prop} (h : elL o F) : ∃ ds, o = some (.lst ds) ∧ F ds := by
  cases o with
  | none => exact h.elim
  | some m => cases m with
    | lst ds => exact ⟨ds, rfl, h⟩
    | dic _ => exact h.elim
    | ins _ _ => exact h.elim
def dMet0 (o : D → List D → Mem → QD → Prop) (to : DE) : DE := fun δ M Q X => to δ M (fun x M1 => o x [] M1 Q) X
/-- x.m(..), the receiver's kind looked at ahead of the arguments -/
def dMet (ty : D → Mem → Prop) (o : D → List D → Mem → QD → Prop) (to : DE) (t : DA) : DE := fun δ M Q X => to δ M (fun x M1 => ty x M1 ∧ t δ M1 (fun ds M2 => o x ds M2 Q) X) X
def LMet (K : PySem.W.Frag) (r : V → List V → Hp → VK → Prop) (o : D → List D → Mem → QD → Prop) : Prop := ∀ (v : V) (vs : List V) (H G : Hp) (M : Mem) (d : D) (ds : List D) (Q : VK) (Q' : QD), Ok K H G M → Rep K G v d → RepL K G vs ds → o d ds M Q' →
  (∀ d M' v H' G', Q' d M' → Ok K H' G' M' → Same G G' → Rep K G' v d → Q v H') → r v vs H Q
def isLst (d : D) (M : Mem) : Prop := match res M d with
  | .lst _ => True
  | _ => False
def isStr (d : D) (_ : Mem) : Prop := match d with
  | .str _ => True
  | _ => False
def oAppend (x : D) (ds : List D) (M : Mem) (Q : QD) : Prop := match x, ds with
  | .obj a, [d] => elL (M a) fun xs => xs.length < sizeLine ∧ Q .non (M.set a (.lst (xs ++ [d])))
  | _, _ => False
def oInsert (x : D) (ds : List D) (M : Mem) (Q : QD) : Prop := match x, ds with
  | .obj a, [.int i, d] => elL (M a) fun xs => xs.length < sizeLine ∧ 0 ≤ i ∧ i < 2 ^ 63 ∧ Q .non (M.set a (.lst (xs.take i.toNat ++ [d] ++ xs.drop i.toNat)))
  | _, _ => False
def oPop (x : D) (ds : List D) (M : Mem) (Q : QD) : Prop := match x, ds with
  | .obj a, [] => elL (M a) fun xs => el xs[xs.length - 1]? fun d => Q d (M.set a (.lst xs.dropLast))
  | _, _ => False
def oPopAt (x : D) (ds : List D) (M : Mem) (Q : QD) : Prop := match x, ds with
  | .obj a, [.int i] => elL (M a) fun xs => 0 ≤ i ∧ i < 2 ^ 62 ∧ el xs[i.toNat]? fun d => Q d (M.set a (.lst (xs.eraseIdx i.toNat)))
  | _, _ => False
def oIndex (x : D) (ds : List D) (M : Mem) (Q : QD) : Prop := match res M x, ds with
  | .lst xs, [d] => flatD d = true ∧ xs.all flatD = true ∧ ∃ (j : Nat) (z : D), xs[j]? = some z ∧ eqF z d = true ∧ (∀ (m : Nat) (z' : D), m < j → xs[m]? = some z' → eqF z' d = false) ∧ Q (.int (j : Nat)) M
  | _, _ => False
def oSplit (x : D) (ds : List D) (M : Mem) (Q : QD) : Prop := match x, ds with
  | .str a, [.str b] => (b.length == 0) = false ∧ a.length + 2 ≤ sizeLine ∧ (Txt.split a b).length ≤ sizeLine ∧ (∀ z ∈ Txt.split a b, strOk z = true) ∧ Q (.lst ((Txt.split a b).map .str)) M
  | _, _ => False
def oJoin (x : D) (ds : List D) (M : Mem) (Q : QD) : Prop := match x, ds with
  | .str a, [d] => ∃ ys : List Str, (res M d = .lst (ys.map .str) ∨ res M d = .tup (ys.map .str)) ∧ (ys.map (·.length)).sum + ys.length * a.length ≤ 16777216 ∧ strOk (Txt.join a ys) = true ∧ Q (.str (Txt.join a ys)) M
  | _, _ => False
section
variable {K : PySem.W.Frag} {X : Cx} {W : WX} {o e : Expr} {es : List Expr} {to te : DE} {t : DA} {name : Str} {apos cpos : Pos} {T id : String} {r : V → List V → Hp → VK → Prop} {oo : D → List D → Mem → QD → Prop}
theorem isLst_of {H G : Hp} {M : Mem} {v : V} {d : D} (ok : Ok K H G M) (rv : Rep K G v d) (h : isLst d M) : tyV K "list" v H := by
  unfold isLst at h
  split at h
  · rename_i ds e
    obtain ⟨a, vs, f, h1, q, z⟩ := rv.lstOf ok e
    subst f
    exact .inl ⟨rfl, _, SqL.of h1⟩
  · exact h.elim
theorem pd_bmL (pa : PlainAttrs "list") (slot : Slot "list" name id) (hty : typeOf (.builtin id) = pure (.type "method_descriptor")) (hm : MtR X id r) (l : LMet X.K r oo) (ho : PD X W o to) (ha : PDA X W (e :: es) t)
    (hbase : attributeBase o name X.env (eval o X.env) = eval o X.env := by rfl)
    (hfew : ((backTo cpos (starEach (e :: es) X.env)).all (fun x => !x.1) && (backToKw cpos (keywordEach [] X.env)).all (fun x => x.1.isSome)
      && decide ((e :: es).length + ([] : List Keyword).length + (if ([] : List Keyword).isEmpty then 0 else 1) < 30)) = true := by rfl)
    (hline : (apos.endLine == cpos.line) = true := by rfl) (hs : starEach (e :: es) X.env = (false, eval e X.env) :: starEach es X.env := by rfl) (hplain : (backTo cpos (starEach es X.env)).any (·.1) = false := by rfl) :
    PD X W (.Call (.Attribute o name apos) (e :: es) [] cpos) (dMet isLst oo to t) :=
  PEw (pe_bm pa slot hty hm ho ha hbase hfew hline hs hplain) fun σ H Q ⟨G, M, δ, Q', X', ok, sl, h, hq, hx⟩ => ⟨G, M, δ, _, X', ok, sl, h, fun d M1 v H1 G1 h1 ok1 e1 r1 =>
    ⟨isLst_of ok1 r1 h1.1, G1, M1, δ, _, X', ok1, sl.mono e1, h1.2, fun ds M2 vs H2 G2 h2 ok2 e2 r2 => l v vs H2 G2 M2 d ds Q Q' ok2 (r1.mono e2) r2 h2 fun d3 M3 v3 H3 G3 h3 ok3 e3 r3 => hq d3 M3 v3 H3 G3 h3 ok3 (e1.trans (e2.trans e3)) r3, hx.mono e1⟩, hx⟩
def dMet0L (oo : D → List D → Mem → QD → Prop) (to : DE) : DE := fun δ M Q X => to δ M (fun x M1 => isLst x M1 ∧ oo x [] M1 Q) X
theorem pd_bm0L (pa : PlainAttrs "list") (slot : Slot "list" name id) (hty : typeOf (.builtin id) = pure (.type "method_descriptor")) (hm : MtR X id r) (l : LMet X.K r oo) (ho : PD X W o to)
    (hbase : attributeBase o name X.env (eval o X.env) = eval o X.env := by rfl) (hline : (apos.endLine == cpos.line) = true := by rfl) : PD X W (.Call (.Attribute o name apos) [] [] cpos) (dMet0L oo to) :=
  PEw (pe_bm0 pa slot hty hm ho hbase hline) fun σ H Q ⟨G, M, δ, Q', X', ok, sl, h, hq, hx⟩ => ⟨G, M, δ, _, X', ok, sl, h, fun d M1 v H1 G1 h1 ok1 e1 r1 =>
    ⟨isLst_of ok1 r1 h1.1, l v [] H1 G1 M1 d [] Q Q' ok1 r1 .nil h1.2 fun d3 M3 v3 H3 G3 h3 ok3 e3 r3 => hq d3 M3 v3 H3 G3 h3 ok3 (e1.trans e3) r3⟩, hx⟩
theorem pd_m1 (slot : Slot "str" name id) (ty : typeOf (.builtin id) = pure (.type "method_descriptor")) (rule : MtR X id r) (l : LMet X.K r oo) (ho : PD X W o to) (he : PD X W e te)
    (hs : starEach [e] X.env = [(false, eval e X.env)] := by rfl) (hbase : attributeBase o name X.env (eval o X.env) = eval o X.env := by rfl) (hline : (apos.endLine == cpos.line) = true := by rfl) :
    PD X W (.Call (.Attribute o name apos) [e] [] cpos) (dMet isStr oo to (dCons te dNil)) :=
  PEw (pe_m1 slot ty rule ho he hs hbase hline) fun σ H Q ⟨G, M, δ, Q', X', ok, sl, h, hq, hx⟩ => ⟨G, M, δ, _, X', ok, sl, h, fun d M1 v H1 G1 h1 ok1 e1 r1 =>
    ⟨by
      have := h1.1
      unfold isStr at this
      split at this
      · cases r1; exact ⟨_, rfl⟩
      · exact this.elim, G1, M1, δ, _, X', ok1, sl.mono e1, h1.2, fun d2 M2 v2 H2 G2 h2 ok2 e2 r2 => l v [v2] H2 G2 M2 d [d2] Q Q' ok2 (r1.mono e2) (.one r2) h2 fun d3 M3 v3 H3 G3 h3 ok3 e3 r3 => hq d3 M3 v3 H3 G3 h3 ok3 (e1.trans (e2.trans e3)) r3, hx.mono e1⟩, hx⟩
theorem l_append : LMet K rAppend oAppend := by
  intro v vs H G M d ds Q Q' ok rv rl h hq
  unfold oAppend at h
  split at h
  · obtain ⟨xs, m, hz, h⟩ := elL_of h
    obtain ⟨g, ys, h1, q, z⟩ := ok.mem _ _ m
    cases rv
    cases rl with
    | cons r1 r2 =>
      cases r2
      exact ⟨_, ys, _, rfl, rfl, h1, by rw [q.len]; exact hz, hq _ _ _ _ _ h (ok.write (m := .lst _) g ⟨_, upd_same, q.append (.one r1), by rw [List.length_append]; exact hz⟩) (Same.refl _) .non⟩
  · exact h.elim
abbrev rInsert : V → List V → Hp → VK → Prop := fun x vs H Q => ∃ (l : Addr) (xs : List V) (i : Int) (y : V), x = .ref l ∧ vs = [.int i, y] ∧ H l = some (.lst xs) ∧ xs.length < sizeLine ∧ 0 ≤ i ∧ i < 2 ^ 63 ∧
    Q .non (upd H l (.lst (xs.take i.toNat ++ [y] ++ xs.drop i.toNat)))
theorem l_insert : LMet K rInsert oInsert := by
  intro v vs H G M d ds Q Q' ok rv rl h hq
  unfold oInsert at h
  split at h
  · obtain ⟨xs, m, hz, h0, h2, h⟩ := elL_of h
    obtain ⟨g, ys, h1, q, z⟩ := ok.mem _ _ m
    cases rv
    cases rl with
    | cons r1 r2 =>
      cases r2 with
      | cons r2 r3 =>
        cases r3
        cases r1
        refine ⟨_, ys, _, _, rfl, rfl, h1, by rw [q.len]; exact hz, h0, h2, hq _ _ _ _ _ h (ok.write (m := .lst _) g ⟨_, upd_same, ((q.take _).append (.one r2)).append (q.drop _), ?_⟩) (Same.refl _) .non⟩
        rw [List.length_append, List.length_append, List.length_take, List.length_drop, List.length_singleton]
        omega
  · exact h.elim
theorem RepL.dropLast {G : Hp} {vs : List V} {ds : List D} (r : RepL K G vs ds) : RepL K G vs.dropLast ds.dropLast := by
  rw [List.dropLast_eq_take, List.dropLast_eq_take, r.len]
  exact r.take _
theorem l_pop : LMet K rPop oPop := by
  intro v vs H G M d ds Q Q' ok rv rl h hq
  unfold oPop at h
  split at h
  · obtain ⟨xs, m, h⟩ := elL_of h
    obtain ⟨z0, ez, h⟩ := el_of h
    obtain ⟨g, ys, h1, q, z⟩ := ok.mem _ _ m
    cases rv
    cases rl
    obtain ⟨y, ey, ry⟩ := q.at ez
    exact ⟨_, ys, y, rfl, rfl, h1, by rw [q.len]; exact ey, hq _ _ _ _ _ h (ok.write (m := .lst _) g ⟨_, upd_same, q.dropLast, by rw [List.length_dropLast]; omega⟩) (Same.refl _) ry⟩
  · exact h.elim
theorem l_popAt : LMet K rPopAt oPopAt := by
  intro v vs H G M d ds Q Q' ok rv rl h hq
  unfold oPopAt at h
  split at h
  · rename_i a i
    obtain ⟨xs, m, h0, h2, h⟩ := elL_of h
    obtain ⟨z0, ez, h⟩ := el_of h
    obtain ⟨g, ys, h1, q, z⟩ := ok.mem _ _ m
    cases rv
    cases rl with
    | cons r1 r2 =>
      cases r2
      cases r1
      obtain ⟨y, ey, ry⟩ := q.at ez
      have e1 : atI ys i = some y := by
        have : i = ((i.toNat : Nat) : Int) := by omega
        rw [this]
        exact atI_nat ey
      obtain ⟨j, f1, f2, f3, f4, f5⟩ := atI_get e1
      have hi : (i.toNat : Int) = i := Int.toNat_of_nonneg h0
      have ej : some i.toNat = some j := by
        rw [← f1]
        unfold seqIndex?
        dsimp only
        have h5 : i < (ys.length : Int) := f5
        rw [if_neg (show ¬ i < 0 by omega)]
        simp [h0, h5]
      cases ej
      exact ⟨_, ys, i, _, y, rfl, rfl, h1, by omega, by omega, f1, f2, hq _ _ _ _ _ h (ok.write (m := .lst _) g ⟨_, upd_same, q.erase _, by
        have := len_erase xs i.toNat
        omega⟩) (Same.refl _) ry⟩
  · exact h.elim
theorem l_index : LMet K (rIndex K) oIndex := by
  intro v vs H G M d ds Q Q' ok rv rl h hq
  unfold oIndex at h
  split at h
  · rename_i xs d e
    obtain ⟨fd, fs, j, z0, e1, e2, e3, h⟩ := h
    obtain ⟨a, ys, f, h1, q, z⟩ := rv.lstOf ok e
    cases rl with
    | cons r1 r2 =>
      cases r2
      obtain ⟨y, ey, ry⟩ := q.at e1
      have fl : ∀ {m : Nat} {z' : D}, xs[m]? = some z' → flatD z' = true := fun {m z'} hm => List.all_eq_true.mp fs z' (List.mem_of_getElem? hm)
      refine ⟨a, ys, _, j, y, f, rfl, SqL.of h1, r1.flat fd, q.flat fs, ey, by rw [ry.eqF r1 (fl e1) fd]; exact e2, fun m z' hm hz' => ?_, hq _ _ _ _ _ h ok (Same.refl _) (.int _)⟩
      obtain ⟨d', ed, rd⟩ := q.get hz'
      rw [rd.eqF r1 (fl ed) fd]
      exact e3 m d' hm ed
  · exact h.elim
theorem reps_strs {G : Hp} : ∀ {ns : List Str} {vs : List V}, RepL K G vs (ns.map D.str) → vs = ns.map V.str
  | [], _, .nil => rfl
  | i :: r, _, .cons (.str _ _) t => by rw [List.map_cons, ← reps_strs t]
theorem RepL.strs {G : Hp} : ∀ {ns : List Str}, (∀ z ∈ ns, strOk z = true) → RepL K G (ns.map V.str) (ns.map D.str)
  | [], _ => .nil
  | i :: r, h => .cons (.str _ (h i List.mem_cons_self)) (RepL.strs fun z hz => h z (List.mem_cons_of_mem _ hz))
abbrev rSplit : V → List V → Hp → VK → Prop := fun x xs H Q => ∃ a b, x = .str a ∧ xs = [.str b] ∧ (b.length == 0) = false ∧ a.length + 2 ≤ sizeLine ∧ rNewStrs (Txt.split a b) H Q
theorem l_split : LMet K rSplit oSplit := by
  intro v vs H G M d ds Q Q' ok rv rl h hq
  unfold oSplit at h
  split at h
  · rename_i a b
    obtain ⟨h0, h2, hz, hs, h⟩ := h
    cases rv
    cases rl with
    | cons r1 r2 =>
      cases r2
      cases r1
      refine ⟨a, b, rfl, rfl, h0, h2, fun p hp => ?_⟩
      have gp := ok.gnone hp
      exact hq _ _ _ _ _ h (ok.frozen hp) (same_upd gp) (.lst upd_same (.strs hs) (by rw [List.length_map]; exact hz))
  · exact h.elim
abbrev rJoin (K : PySem.W.Frag) : V → List V → Hp → VK → Prop := fun x xs H Q => ∃ a p, ∃ ys : List Str, x = .str a ∧ xs = [.ref p] ∧ (SqL K H p (ys.map V.str) ∨ SqT K H p (ys.map V.str)) ∧
    (ys.map (·.length)).sum + ys.length * a.length ≤ 16777216 ∧ Q (.str (Txt.join a ys)) H
theorem l_join : LMet K (rJoin K) oJoin := by
  intro v vs H G M d ds Q Q' ok rv rl h hq
  unfold oJoin at h
  split at h
  · rename_i a d
    obtain ⟨ys, e, hz, hs, h⟩ := h
    cases rv
    cases rl with
    | cons r1 r2 =>
      cases r2
      rcases e with e | e
      · obtain ⟨p, us, f, h1, q, z⟩ := r1.lstOf ok e
        have := reps_strs q
        subst this
        exact ⟨a, p, ys, rfl, by rw [f], .inl (SqL.of h1), hz, hq _ _ _ _ _ h ok (Same.refl _) (.str _ hs)⟩
      · obtain ⟨p, us, f, h1, q, z⟩ := r1.tupOf ok e
        have := reps_strs q
        subst this
        exact ⟨a, p, ys, rfl, by rw [f], .inr (SqT.of h1), hz, hq _ _ _ _ _ h ok (Same.refl _) (.str _ hs)⟩
  · exact h.elim
end
end DL

/-! The data layer: what is walked, comprehensions -/
namespace DL
open PySem PySem.Spec PyProof.Rows L2

/-- the items, and what has to stay so while they are walked -/
abbrev DI := DS → Mem → (List D → (Mem → Prop) → Mem → Prop) → XD → Prop
def LIt (K : PySem.W.Frag) (G0 : Hp) (J : It) (items : List D) (P : Mem → Prop) : Prop := ∀ (i : Nat) (H G : Hp) (M : Mem), Ok K H G M → Same G0 G → P M →
  (items.length ≤ i → J.stop i H) ∧ (∀ d, items[i]? = some d → J.go i H ∧ ∀ x H', J.yld i H x H' → ∃ G', Ok K H' G' M ∧ Same G G' ∧ Rep K G' x d)
def upI (K : PySem.W.Frag) (W : WX) (t : DI) : TI := fun σ H R => ∃ (G : Hp) (M : Mem) (δ : DS) (R' : List D → (Mem → Prop) → Mem → Prop) (X' : XD), Ok K H G M ∧ Slots K G σ δ ∧ t δ M R' X' ∧
  (∀ items P M' J H' G', R' items P M' → Ok K H' G' M' → Same G G' → LIt K G' J items P → items.length ≤ sizeLine → R J H') ∧ WOk K W G X'
abbrev PDI (X : Cx) (W : WX) (tg iter : Expr) (t : DI) : Prop := PI X tg iter (upI X.K W t)
theorem PIw {X : Cx} {tg e : Expr} {t t' : TI} (h : PI X tg e t) (w : ∀ σ H Q, t' σ H Q → t σ H Q) : PI X tg e t' := ⟨fun pins s σ H Q I q => h.run pins s σ H Q I (w σ H Q q)⟩

/-- a list, a tuple, a text -/
def iAny (K : PySem.W.Frag) (tl : TE) : TI := fun σ H R => tl σ H fun x H1 => (∃ a, x = .ref a ∧ (∃ xs, SqL K H1 a xs) ∧ R (Itl K a) H1) ∨ (∃ a, x = .ref a ∧ (∃ xs, SqT K H1 a xs) ∧ R (Itt K a) H1) ∨ (∃ z, x = .str z ∧ R (Its z) H1)
theorem pi_any {X : Cx} {tg l : Expr} {tl : TE} (hl : PE X l tl) : PI X tg l (iAny X.K tl) := by
  refine ⟨fun pins s σ H R I h => ?_⟩
  refine thn (hl.run pins s σ H _ I h) fun v s1 ⟨x, H1, I1, r1, q1⟩ => ?_
  rcases q1 with ⟨a, e, ⟨xs, hq⟩, q⟩ | ⟨a, e, ⟨xs, hq⟩, q⟩ | ⟨z, e, q⟩
  · subst e
    cases r1
    obtain ⟨its, rv, p, hz⟩ := I1.list hq
    refine wpAny_pyIter_list p.isList ?_
    refine ⟨s1.heap.objs.size, [s1.heap.objs.size], _, _, H1, rfl, I1.kept (t' := s1.toks) fun b o e => Heap.get?_push_of_some _ e, turn_list a _, ⟨_, Heap.get?_push_size _ rfl, rfl, rfl⟩, fun b hb => ?_, q⟩
    have e : b = s1.heap.objs.size := by simpa using hb
    subst e
    exact I1.fpOk (Nat.le_refl _) (I1.hok.fresh (Nat.le_refl _))
  · subst e
    cases r1
    obtain ⟨its, rv, p, hz⟩ := I1.tuple hq
    refine wpAny_pyIter_tuple (show s1.heap.IsTuple a its.toArray from p) ?_
    refine ⟨s1.heap.objs.size, [s1.heap.objs.size], _, _, H1, rfl, I1.kept (t' := s1.toks) fun b o e => Heap.get?_push_of_some _ e, turn_tuple a _, ⟨_, Heap.get?_push_size _ rfl, rfl, rfl⟩, fun b hb => ?_, q⟩
    have e : b = s1.heap.objs.size := by simpa using hb
    subst e
    exact I1.fpOk (Nat.le_refl _) (I1.hok.fresh (Nat.le_refl _))
  · subst e
    obtain ⟨t, rfl⟩ := r1
    cases ha : z.cps.all (· < 128)
    · exact wpAny_pyIter_wide ha (pi_one (tk := s1.toks) I1 _ (turn_str _ z t "str_iterator" (.inr rfl)) ⟨_, Heap.get?_push_size _ rfl, rfl, rfl⟩ q)
    · exact wpAny_pyIter_ascii ha (pi_one (tk := s1.toks) I1 _ (turn_str _ z t "str_ascii_iterator" (.inl rfl)) ⟨_, Heap.get?_push_size _ rfl, rfl, rfl⟩ q)

def signsD (z : Str) : List D := z.cps.toList.map fun c => .str ⟨#[c]⟩
abbrev still : Mem → Prop := fun _ => True
def itemsOf (d : D) (M : Mem) (F : List D → (Mem → Prop) → Prop) : Prop := match d with
  | .lst ds => F ds still
  | .tup ds => F ds still
  | .str z => F (signsD z) still
  | .obj a => elL (M a) fun ds => F ds fun M' => M' a = some (.lst ds)
  | _ => False
def dItems (t : DE) : DI := fun δ M R X => t δ M (fun d M1 => itemsOf d M1 fun items P => R items P M1) X
def rangeD (lo : Int) (n : Nat) : List D := (List.range n).map fun i => .int (lo + (i : Nat))
def rng1 (ds : List D) (F : List D → (Mem → Prop) → Prop) : Prop := match ds with
  | [.int j] => -1000000 ≤ j ∧ j ≤ 1000000 ∧ F (rangeD 0 j.toNat) still
  | _ => False
def dRange1 (t : DA) : DI := fun δ M R X => t δ M (fun ds M1 => rng1 ds fun items P => R items P M1) X
def enumD : Nat → List D → List D
  | _, [] => []
  | i, d :: r => .tup [.int (i : Nat), d] :: enumD (i + 1) r
def enumOf (ds : List D) (M : Mem) (F : List D → (Mem → Prop) → Prop) : Prop := match ds with
  | [.lst xs] => F (enumD 0 xs) still
  | [.obj a] => elL (M a) fun xs => F (enumD 0 xs) fun M' => M' a = some (.lst xs)
  | _ => False
def dEnum (t : DA) : DI := fun δ M R X => t δ M (fun ds M1 => enumOf ds M1 fun items P => R items P M1) X
section
variable {X : Cx} {W : WX} {tg e : Expr} {te : DE} {t : DA} {K : PySem.W.Frag}
theorem it_list {G : Hp} {a : Addr} {vs : List V} {ds : List D} (h : G a = some (.lst vs)) (r : RepL K G vs ds) : LIt K G (Itl K a) ds still := fun i H G1 M ok s _ => by
  have hS : SqL K H a vs := SqL.of (ok.sub _ _ (s _ _ h))
  refine ⟨fun hl => ⟨vs, hS, by rw [r.len]; exact hl⟩, fun d hd => ?_⟩
  obtain ⟨v, ev, rv⟩ := r.at hd
  refine ⟨⟨vs, v, hS, ev⟩, fun x H' ⟨e1, e2⟩ => ?_⟩
  have := e2 vs hS
  rw [ev] at this
  cases this
  subst e1
  exact ⟨G1, ok, Same.refl _, rv.mono s⟩
theorem it_tup {G : Hp} {a : Addr} {vs : List V} {ds : List D} (h : G a = some (.tup vs)) (r : RepL K G vs ds) : LIt K G (Itt K a) ds still := fun i H G1 M ok s _ => by
  have hS : SqT K H a vs := SqT.of (ok.sub _ _ (s _ _ h))
  refine ⟨fun hl => ⟨vs, hS, by rw [r.len]; exact hl⟩, fun d hd => ?_⟩
  obtain ⟨v, ev, rv⟩ := r.at hd
  refine ⟨⟨vs, v, hS, ev⟩, fun x H' ⟨e1, e2⟩ => ?_⟩
  have := e2 vs hS
  rw [ev] at this
  cases this
  subst e1
  exact ⟨G1, ok, Same.refl _, rv.mono s⟩
theorem it_str {G : Hp} {z : Str} (h : strOk z = true) : LIt K G (Its z) (signsD z) still := fun i H G1 M ok s _ => by
  unfold signsD
  refine ⟨fun hl => by
    rw [List.length_map, Array.length_toList] at hl
    exact hl, fun d hd => ?_⟩
  rw [List.getElem?_map, Array.getElem?_toList] at hd
  cases ec : z.cps[i]? with
  | none => rw [ec] at hd; cases hd
  | some c =>
    rw [ec] at hd
    cases hd
    refine ⟨(Array.getElem?_eq_some_iff.mp ec).1, fun x H' ⟨e1, c', e2, e3⟩ => ?_⟩
    rw [ec] at e2; cases e2
    subst e1 e3
    exact ⟨G1, ok, Same.refl _, .str _ (strOk_one h (List.mem_of_getElem? (by rw [Array.getElem?_toList]; exact ec)))⟩
theorem it_range {G : Hp} {lo : Int} {n : Nat} : LIt K G (Itr lo n) (rangeD lo n) still := fun i H G1 M ok s _ => by
  unfold rangeD
  refine ⟨fun hl => by
    rw [List.length_map, List.length_range] at hl
    exact hl, fun d hd => ?_⟩
  rw [List.getElem?_map] at hd
  cases ec : (List.range n)[i]? with
  | none => rw [ec] at hd; cases hd
  | some c =>
    rw [ec] at hd
    cases hd
    obtain ⟨hi, ei⟩ := List.getElem?_eq_some_iff.mp ec
    rw [List.getElem_range] at ei
    subst ei
    refine ⟨(by simpa using hi : i < n), fun x H' ⟨e1, e2⟩ => ?_⟩
    subst e1 e2
    exact ⟨G1, ok, Same.refl _, .int _⟩
theorem enumD_len : ∀ (k : Nat) (ds : List D), (enumD k ds).length = ds.length
  | _, [] => rfl
  | k, d :: r => by rw [enumD, List.length_cons, List.length_cons, enumD_len]
theorem enumD_get : ∀ (k : Nat) (ds : List D) (i : Nat), (enumD k ds)[i]? = (ds[i]?).map fun d => .tup [.int ((k + i : Nat) : Int), d]
  | _, [], i => by simp [enumD]
  | k, d :: r, 0 => by simp [enumD]
  | k, d :: r, i + 1 => by
    rw [enumD, List.getElem?_cons_succ, List.getElem?_cons_succ, enumD_get (k + 1) r i]
    rw [show k + 1 + i = k + (i + 1) by omega]
theorem it_enum {G : Hp} {a : Addr} {vs : List V} {ds : List D} (h : G a = some (.lst vs)) (r : RepL K G vs ds) : LIt K G (Ite K a) (enumD 0 ds) still := fun i H G1 M ok s _ => by
  have hS : SqL K H a vs := SqL.of (ok.sub _ _ (s _ _ h))
  refine ⟨fun hl => ⟨vs, hS, by rw [r.len]; rw [enumD_len] at hl; exact hl⟩, fun d hd => ?_⟩
  rw [enumD_get] at hd
  cases ec : ds[i]? with
  | none => rw [ec] at hd; cases hd
  | some d0 =>
    rw [ec] at hd
    cases hd
    obtain ⟨v, ev, rv⟩ := r.at ec
    refine ⟨⟨vs, v, hS, ev⟩, fun x H' ⟨T, y, e1, e2, e3, e4⟩ => ?_⟩
    have := e4 vs hS
    rw [ev] at this
    cases this
    subst e1 e3
    have gp := ok.gnone e2
    refine ⟨_, ok.frozen e2, same_upd gp, .tup upd_same ?_ (by show 2 ≤ sizeLine; rw [sizeLine_eq]; decide)⟩
    rw [Nat.zero_add]
    exact .cons (.int _) (.one ((rv.mono s).mono (same_upd gp)))
theorem it_listM {G : Hp} {a : Addr} {ds : List D} : LIt K G (Itl K a) ds (fun M' => M' a = some (.lst ds)) := fun i H G1 M ok s m => by
  obtain ⟨g, vs, h, r, z⟩ := ok.mem _ _ m
  have hS : SqL K H a vs := SqL.of h
  refine ⟨fun hl => ⟨vs, hS, by rw [r.len]; exact hl⟩, fun d hd => ?_⟩
  obtain ⟨v, ev, rv⟩ := r.at hd
  refine ⟨⟨vs, v, hS, ev⟩, fun x H' ⟨e1, e2⟩ => ?_⟩
  have := e2 vs hS
  rw [ev] at this
  cases this
  subst e1
  exact ⟨G1, ok, Same.refl _, rv⟩
theorem it_enumM {G : Hp} {a : Addr} {ds : List D} : LIt K G (Ite K a) (enumD 0 ds) (fun M' => M' a = some (.lst ds)) := fun i H G1 M ok s m => by
  obtain ⟨g, vs, h, r, z⟩ := ok.mem _ _ m
  have hS : SqL K H a vs := SqL.of h
  refine ⟨fun hl => ⟨vs, hS, by rw [r.len]; rw [enumD_len] at hl; exact hl⟩, fun d hd => ?_⟩
  rw [enumD_get] at hd
  cases ec : ds[i]? with
  | none => rw [ec] at hd; cases hd
  | some d0 =>
    rw [ec] at hd
    cases hd
    obtain ⟨v, ev, rv⟩ := r.at ec
    refine ⟨⟨vs, v, hS, ev⟩, fun x H' ⟨T, y, e1, e2, e3, e4⟩ => ?_⟩
    have := e4 vs hS
    rw [ev] at this
    cases this
    subst e1 e3
    have gp := ok.gnone e2
    refine ⟨_, ok.frozen e2, same_upd gp, .tup upd_same ?_ (by show 2 ≤ sizeLine; rw [sizeLine_eq]; decide)⟩
    rw [Nat.zero_add]
    exact .cons (.int _) (.one (rv.mono (same_upd gp)))
theorem pdi_any (h : PD X W e te) : PDI X W tg e (dItems te) :=
  PIw (pi_any h) fun σ H Q ⟨G, M, δ, Q', X', ok, sl, h, hq, hx⟩ => ⟨G, M, δ, _, X', ok, sl, h, fun d M1 v H1 G1 h1 ok1 e1 r1 => by
    unfold itemsOf at h1
    split at h1
    · cases r1 with
      | lst hg r z => exact .inl ⟨_, rfl, ⟨_, SqL.of (ok1.sub _ _ hg)⟩, hq _ _ _ _ _ _ h1 ok1 e1 (it_list hg r) z⟩
    · cases r1 with
      | tup hg r z => exact .inr (.inl ⟨_, rfl, ⟨_, SqT.of (ok1.sub _ _ hg)⟩, hq _ _ _ _ _ _ h1 ok1 e1 (it_tup hg r) z⟩)
    · cases r1 with
      | str z hs => exact .inr (.inr ⟨_, rfl, hq _ _ _ _ _ _ h1 ok1 e1 (it_str hs) (by unfold signsD; rw [List.length_map, Array.length_toList]; exact strOk_len hs)⟩)
    · obtain ⟨ds, m, h2⟩ := elL_of h1
      obtain ⟨g, vs, hH, r, z⟩ := ok1.mem _ _ m
      cases r1
      exact .inl ⟨_, rfl, ⟨_, SqL.of hH⟩, hq _ _ _ _ _ _ h2 ok1 e1 it_listM z⟩
    · exact h1.elim, hx⟩
theorem line_big : (1000000 : Nat) ≤ sizeLine := by rw [sizeLine_eq]; decide
theorem range_up {K : PySem.W.Frag} {W : WX} {t : DA} : ∀ (σ : L2.St) (H : Hp) (Q : It → Hp → Prop), upI K W (dRange1 t) σ H Q → iRng1 (upA K W t) σ H Q := fun σ H Q ⟨G, M, δ, Q', X', ok, sl, h, hq, hx⟩ => ⟨G, M, δ, _, X', ok, sl, h, fun ds M1 vs H1 G1 h1 ok1 e1 r1 => by
    unfold rng1 at h1
    split at h1
    · rename_i j
      cases r1 with
      | cons r1 r2 =>
        cases r2
        cases r1
        obtain ⟨b1, b2, h1⟩ := h1
        exact ⟨j, rfl, by omega, by omega, hq _ _ _ _ _ _ h1 ok1 e1 it_range (by
          unfold rangeD
          rw [List.length_map, List.length_range]
          have := line_big
          omega)⟩
    · exact h1.elim, hx⟩
theorem pdi_range1 {a : Expr} {p pos : Pos} (hg : Gl X "range") (hm : X.mg "range" = none) (ha : PDA X W [a] t) (hs : starEach [a] X.env = [(false, eval a X.env)] := by rfl) : PDI X W tg (.Call (.Name "range" p) [a] [] pos) (dRange1 t) :=
  PIw (pi_range1 hg hm ha hs) range_up
theorem pdi_enum {p pos tpos : Pos} {elts : List Expr} {kk : Nat} (hg : Gl X "enumerate") (hm : X.mg "enumerate" = none) (ha : PDA X W [e] t) (hs : starEach [e] X.env = [(false, eval e X.env)] := by rfl) :
    PDI X W (.Tuple elts kk tpos) (.Call (.Name "enumerate" p) [e] [] pos) (dEnum t) :=
  PIw (pi_enum hg hm ha hs) fun σ H Q ⟨G, M, δ, Q', X', ok, sl, h, hq, hx⟩ => ⟨G, M, δ, _, X', ok, sl, h, fun ds M1 vs H1 G1 h1 ok1 e1 r1 => by
    unfold enumOf at h1
    split at h1
    · cases r1 with
      | cons r1 r2 =>
        cases r2
        cases r1 with
        | lst hg r z => exact ⟨_, _, rfl, SqL.of (ok1.sub _ _ hg), hq _ _ _ _ _ _ h1 ok1 e1 (it_enum hg r) (by rw [enumD_len]; exact z)⟩
    · obtain ⟨xs, m, h2⟩ := elL_of h1
      obtain ⟨g, vs, hH, r, z⟩ := ok1.mem _ _ m
      cases r1 with
      | cons r1 r2 =>
        cases r2
        cases r1
        exact ⟨_, _, rfl, SqL.of hH, hq _ _ _ _ _ _ h2 ok1 e1 it_enumM (by rw [enumD_len]; exact z)⟩
    · exact h1.elim, hx⟩
end

/-! ### comprehensions -/
abbrev PDTs (X : Cx) (W : WX) (ifs : List Expr) (t : DT) : Prop := PTs X ifs (upT X.K W t)
def dYes : DT := fun _ M Q _ => Q true M
def lcL (D0 : Addr) (i : Nat) (tt : DT) (te : DE) (δ : DS) (P : Mem → Prop) (Q : Mem → Prop) : List D → List D → Mem → Prop
  | [], _, M => P M ∧ Q M
  | x :: xs, acc, M => P M ∧ tt (δ.set i (some x)) M (fun b M1 => cond b (te (δ.set i (some x)) M1 (fun d M2 => M2 D0 = some (.lst acc) ∧ lcL D0 i tt te δ P Q xs (acc ++ [d]) (M2.set D0 (.lst (acc ++ [d])))) fun _ _ _ => False) (M1 D0 = some (.lst acc) ∧ lcL D0 i tt te δ P Q xs acc M1)) fun _ _ _ => False
theorem lcL_P {D0 : Addr} {i : Nat} {tt : DT} {te : DE} {δ : DS} {P Q : Mem → Prop} {M : Mem} : ∀ {xs acc : List D}, lcL D0 i tt te δ P Q xs acc M → P M
  | [], _, h => h.1
  | _ :: _, _, h => h.1
/-- [elt for x in items if tt], x in slot i: a list that may change -/
def dLcM (ti : DI) (i : Nat) (tt : DT) (te : DE) : DE := fun δ M Q X => ti δ M (fun items P M1 => ∀ D0, M1 D0 = none → lcL D0 i tt te (dwipe δ [i]) P (fun M2 => Q (.obj D0) M2) items [] (M1.set D0 (.lst []))) X
abbrev dLc (ti : DI) (i : Nat) (tt : DT) (te : DE) : DE := dFrz (dLcM ti i tt te)
section
variable {X : Cx} {W : WX} {K : PySem.W.Frag} {ti : DI} {i : Nat} {tt : DT} {te : DE}
theorem pdts_nil : PDTs X W [] dYes := ⟨fun pins s σ H Q I ⟨G, M, δ, Q', X', ok, sl, h, hq, hx⟩ => (pts_nil (X := X)).run pins s σ H Q I (hq true M H G h ok (Same.refl _))⟩
theorem pdts_one {c : Expr} {t : DT} (h : PDT X W c t) : PDTs X W [c] t := pts_one h
theorem up_frz {te : DE} {σ : L2.St} {H : Hp} {Q : VK} (h : up K W (dFrz te) σ H Q) : up K W te σ H Q := by
  obtain ⟨G, M, δ, Q', X', ok, sl, h, hq, hx⟩ := h
  refine ⟨G, M, δ, _, X', ok, sl, h, fun d M1 v H1 G1 h1 ok1 e1 r1 => ?_, hx⟩
  obtain ⟨d', M', G', h2, ok2, e2, r2⟩ := frz_of ok1 r1 h1
  exact hq _ _ _ _ _ h2 ok2 (e1.trans e2) r2
theorem up_lc {σ : L2.St} {H : Hp} {Q : VK} (h : up K W (dLcM ti i tt te) σ H Q) : tLc (upI K W ti) (gName i) (upT K W0 tt) (up K W0 te) [i] σ H Q := by
  obtain ⟨G, M, δ, Q', X', ok, sl, h, hq, hx⟩ := h
  refine ⟨G, M, δ, _, X', ok, sl, h, fun items P M1 J H1 G1 h1 ok1 e1 it hz => fun D0 hD => ?_, hx⟩
  have gD := ok1.gnone hD
  refine ⟨fun k m H2 => m = items.length - k ∧ k ≤ items.length ∧ ∃ (G2 : Hp) (M2 : Mem) (acc : List D), Ok K H2 G2 M2 ∧ Same G1 G2 ∧ acc.length ≤ k ∧ M2 D0 = some (.lst acc) ∧
    lcL D0 i tt te (dwipe δ [i]) P (fun M2 => Q' (.obj D0) M2) (items.drop k) acc M2, ⟨items.length, by omega, Nat.zero_le _, G1, M1.set D0 (.lst []), [], ok1.write gD ⟨[], upd_same, .nil, Nat.zero_le _⟩, Same.refl _, Nat.le_refl _, Mem.set_same, h1 D0 (ok1.mnone hD)⟩, ?_⟩
  rintro k m H2 ⟨rfl, hk, G2, M2, acc, ok2, e2, ha, hm, hl⟩
  obtain ⟨st, go⟩ := it k H2 G2 M2 ok2 e2 (lcL_P hl)
  by_cases hlt : k < items.length
  · refine .inr ?_
    obtain ⟨g0, gy⟩ := go items[k] (by simp [hlt])
    refine ⟨g0, fun H' => k + 1 ≤ items.length ∧ ∃ (G2 : Hp) (M2 : Mem) (acc : List D), Ok K H' G2 M2 ∧ Same G1 G2 ∧ acc.length ≤ k + 1 ∧ M2 D0 = some (.lst acc) ∧
      lcL D0 i tt te (dwipe δ [i]) P (fun M2 => Q' (.obj D0) M2) (items.drop (k + 1)) acc M2, fun H' hn => ⟨items.length - (k + 1), by omega, rfl, hn.1, hn.2⟩, fun x H' y => ?_⟩
    obtain ⟨G3, ok3, e3, r3⟩ := gy x H' y
    have ed : items.drop k = items[k] :: items.drop (k + 1) := List.drop_eq_getElem_cons hlt
    rw [ed] at hl
    have hl := hl.2
    refine ⟨?_, G3, M2, (dwipe δ [i]).set i (some items[k]), _, _, ok3, ?_, hl, fun b M4 H4 G4 h4 ok4 e4 => ?_, WOk.bot⟩
    · show (((σ.set i none).set i (some x)).set i none) = σ.set i none
      rw [List.set_set, List.set_set]
    · exact Slots.set (.yes r3) i (Slots.wipe (sl.mono (e1.trans (e2.trans e3))) [i])
    · cases b with
      | false =>
        rw [if_neg Bool.false_ne_true]
        exact ⟨hlt, G4, M4, acc, ok4, e2.trans (e3.trans e4), by omega, h4.1, h4.2⟩
      | true =>
        rw [if_pos rfl]
        refine ⟨G4, M4, (dwipe δ [i]).set i (some items[k]), _, _, ok4, ?_, h4, fun d M5 v H5 G5 h5 ok5 e5 r5 => ?_, WOk.bot⟩
        · exact Slots.set (.yes (r3.mono e4)) i (Slots.wipe (sl.mono (e1.trans (e2.trans (e3.trans e4)))) [i])
        · obtain ⟨h5, h6⟩ := h5
          obtain ⟨g5, vs, hH, q, z⟩ := ok5.mem _ _ h5
          refine ⟨vs, hH, by rw [q.len]; omega, hlt, G5, _, _, ok5.write (m := .lst (acc ++ [d])) g5 ⟨_, upd_same, q.append (.one r5), by rw [List.length_append, List.length_singleton]; omega⟩, e2.trans (e3.trans (e4.trans e5)), by rw [List.length_append, List.length_singleton]; omega, Mem.set_same, h6⟩
  · have e : k = items.length := by omega
    subst e
    rw [List.drop_length] at hl
    exact .inl ⟨st (Nat.le_refl _), hq _ _ _ _ _ hl.2 ok2 (e1.trans e2) (.obj D0)⟩
variable {elt tg iter : Expr} {ifs : List Expr} {scope : Scope} {x : Str} {pos : Pos}
theorem pd_lcM (hc : X.calm = true) (hN : X.N.Nodup) (hi : PDI X W tg iter ti) (ok : BlkOk X.N X.env.scope scope [(x, i)])
    (hg : ∀ (s : Shared) (H : Hp) (C : Addr) (cl : List (Str × Addr)) (fp : List Addr), PG (X.blk s H scope (compEnvC scope cl C X.env) fp) tg (gName i)) (ht : ∀ (s : Shared) (H : Hp) (C : Addr) (cl : List (Str × Addr)) (fp : List Addr), PDTs (X.blk s H scope (compEnvC scope cl C X.env) fp) W0 ifs tt)
    (he : ∀ (s : Shared) (H : Hp) (C : Addr) (cl : List (Str × Addr)) (fp : List Addr), PD (X.blk s H scope (compEnvC scope cl C X.env) fp) W0 elt te) (hs : ∀ x, foldedSetIterable iter X.env x = pure x := by intro _; rfl) :
    PD X W (.ListComp elt [⟨tg, iter, ifs, 0⟩] scope pos) (dLcM ti i tt te) := PEw (pe_lc hc hN hi ok hg ht he hs) fun _ _ _ h => up_lc h
theorem pd_lc (hc : X.calm = true) (hN : X.N.Nodup) (hi : PDI X W tg iter ti) (ok : BlkOk X.N X.env.scope scope [(x, i)])
    (hg : ∀ (s : Shared) (H : Hp) (C : Addr) (cl : List (Str × Addr)) (fp : List Addr), PG (X.blk s H scope (compEnvC scope cl C X.env) fp) tg (gName i)) (ht : ∀ (s : Shared) (H : Hp) (C : Addr) (cl : List (Str × Addr)) (fp : List Addr), PDTs (X.blk s H scope (compEnvC scope cl C X.env) fp) W0 ifs tt)
    (he : ∀ (s : Shared) (H : Hp) (C : Addr) (cl : List (Str × Addr)) (fp : List Addr), PD (X.blk s H scope (compEnvC scope cl C X.env) fp) W0 elt te) (hs : ∀ x, foldedSetIterable iter X.env x = pure x := by intro _; rfl) :
    PD X W (.ListComp elt [⟨tg, iter, ifs, 0⟩] scope pos) (dLc ti i tt te) := pd_frz (pd_lcM hc hN hi ok hg ht he hs)
end

/-- a comprehension whose parts only read -/
theorem lcL_pure {D0 : Addr} {i : Nat} {tt : DT} {te : DE} {δ : DS} {P Q : Mem → Prop} {M : Mem} (hD : M D0 = none) (hP : ∀ M', M.Sub M' → P M') (p : D → Bool) (f : D → D) : ∀ {xs : List D} {acc : List D},
    (∀ x, x ∈ xs → ∀ M', M.Sub M' → ∀ Qb : Bool → Mem → Prop, Qb (p x) M' → tt (δ.set i (some x)) M' Qb fun _ _ _ => False) →
    (∀ x, x ∈ xs → p x = true → ∀ M', M.Sub M' → ∀ Qd : QD, Qd (f x) M' → te (δ.set i (some x)) M' Qd fun _ _ _ => False) →
    Q (M.set D0 (.lst (acc ++ (xs.filter p).map f))) → lcL D0 i tt te δ P Q xs acc (M.set D0 (.lst acc))
  | [], acc, _, _, h => by
    refine ⟨hP _ (Mem.sub_set hD), ?_⟩
    simpa using h
  | x :: xs, acc, h1, h2, h => by
    refine ⟨hP _ (Mem.sub_set hD), h1 x List.mem_cons_self _ (Mem.sub_set hD) _ ?_⟩
    cases e : p x with
    | true =>
      refine h2 x List.mem_cons_self e _ (Mem.sub_set hD) _ ⟨Mem.set_same, ?_⟩
      rw [Mem.set_set]
      refine lcL_pure hD hP p f (fun y hy => h1 y (List.mem_cons_of_mem _ hy)) (fun y hy => h2 y (List.mem_cons_of_mem _ hy)) ?_
      rw [List.filter_cons_of_pos e, List.map_cons] at h
      rw [List.append_assoc]
      exact h
    | false =>
      refine ⟨Mem.set_same, lcL_pure hD hP p f (fun y hy => h1 y (List.mem_cons_of_mem _ hy)) (fun y hy => h2 y (List.mem_cons_of_mem _ hy)) ?_⟩
      rw [List.filter_cons_of_neg (by rw [e]; exact Bool.false_ne_true)] at h
      exact h
end DL

/-! The data layer: statements -/
namespace DL
open PySem PySem.Spec PyProof.Rows L2

theorem EOk.mono {K : PySem.W.Frag} {W : WX} {G G1 : Hp} {E : DEnds} {D' : Ends} (h : EOk K W G E D') (e : Same G G1) : EOk K W G1 E D' :=
  ⟨fun δ M σ H G' a b s => h.nx δ M σ H G' a b (e.trans s), fun d M v H G' a b s => h.rt d M v H G' a b (e.trans s), fun δ M σ H G' a b s => h.bk δ M σ H G' a b (e.trans s), fun δ M σ H G' a b s => h.ct δ M σ H G' a b (e.trans s), h.xc.mono e⟩

def dNext : DSt := fun E δ M => E.nx δ M
def dSeq (t u : DSt) : DSt := fun E δ M => t { E with nx := u E } δ M
def dExpr (te : DE) : DSt := fun E δ M => te δ M (fun _ M1 => E.nx δ M1) E.xc
def dRet (te : DE) : DSt := fun E δ M => te δ M E.rt E.xc
def dIfS (c : DT) (t u : DSt) : DSt := fun E δ M => c δ M (fun b M1 => cond b (t E δ M1) (u E δ M1)) E.xc
def dSet (i : Nat) (te : DE) : DSt := fun E δ M => te δ M (fun d M1 => E.nx (δ.set i (some d)) M1) E.xc
def dCont : DSt := fun E δ M => E.ct δ M
def dRaise (C : Addr) : DSt := fun E δ M => E.xc C δ M
/-- code that is never come to -/
def dNever : DSt := fun _ _ _ => False
section
variable {X : Cx} {W : WX} {K : PySem.W.Frag} {st : Stmt} {rest : List Stmt} {t u : DSt} {e : Expr} {te : DE} {pos : Pos}
theorem pdss_nil : PDSs X W [] dNext := PSsw pss_nil fun D σ H ⟨G, M, δ, E, ok, sl, h, eo⟩ => eo.nx _ _ _ _ _ h ok (Same.refl _) sl
theorem pdss_cons (h1 : PDS X W st t) (h2 : PDSs X W rest u) : PDSs X W (st :: rest) (dSeq t u) :=
  PSsw (pss_cons h1 h2) fun D σ H ⟨G, M, δ, E, ok, sl, h, eo⟩ => ⟨G, M, δ, _, ok, sl, h, ⟨fun δ' M' σ' H' G' h' ok' e' sl' => ⟨G', M', δ', E, ok', sl', h', eo.mono e'⟩, eo.rt, eo.bk, eo.ct, eo.xc⟩⟩
theorem pdss_one (h1 : PDS X W st t) : PDSs X W [st] t := pss_one h1
theorem pds_expr (he : PD X W e te) (hs : swapsWith e none pos.line X.env = pure false := by rfl) : PDS X W (.Expr e pos) (dExpr te) :=
  PSw (ps_expr he hs) fun D σ H ⟨G, M, δ, E, ok, sl, h, eo⟩ => ⟨G, M, δ, _, _, ok, sl, h, fun d M1 v H1 G1 h1 ok1 e1 r1 => eo.nx _ _ _ _ _ h1 ok1 e1 (sl.mono e1), eo.xc⟩
theorem pds_ret (he : PD X W e te) : PDS X W (.Return (some e) pos) (dRet te) :=
  PSw (ps_ret he) fun D σ H ⟨G, M, δ, E, ok, sl, h, eo⟩ => ⟨G, M, δ, _, _, ok, sl, h, fun d M1 v H1 G1 h1 ok1 e1 r1 => eo.rt _ _ _ _ _ h1 ok1 e1 r1, eo.xc⟩
theorem pds_if {c : Expr} {a b : List Stmt} {tc : DT} (hc : PDT X W c tc) (ha : PDSs X W a t) (hb : PDSs X W b u) : PDS X W (.If c a b pos) (dIfS tc t u) :=
  PSw (ps_if hc ha hb) fun D σ H ⟨G, M, δ, E, ok, sl, h, eo⟩ => ⟨G, M, δ, _, _, ok, sl, h, fun d M1 H1 G1 h1 ok1 e1 => by
    cases d with
    | true => rw [if_pos rfl]; exact ⟨G1, M1, δ, E, ok1, sl.mono e1, h1, eo.mono e1⟩
    | false => rw [if_neg Bool.false_ne_true]; exact ⟨G1, M1, δ, E, ok1, sl.mono e1, h1, eo.mono e1⟩, eo.xc⟩
theorem pds_pass : PDS X W (.Pass pos) dNext := PSw ps_pass fun D σ H ⟨G, M, δ, E, ok, sl, h, eo⟩ => eo.nx _ _ _ _ _ h ok (Same.refl _) sl
theorem pds_cont : PDS X W (.Continue pos) dCont := PSw ps_continue fun D σ H ⟨G, M, δ, E, ok, sl, h, eo⟩ => eo.ct _ _ _ _ _ h ok (Same.refl _) sl
theorem pds_never : PDS X W st dNever := PSw ps_never fun D σ H ⟨G, M, δ, E, ok, sl, h, eo⟩ => h.elim
/-- name = value -/
theorem pds_set {i : Nat} {x : Str} {pos' : Pos} (hN : X.N.Nodup) (hi : X.N[i]? = some x) (hx : Loc X.env.scope x) (he : PD X W e te) (hs : swapsWith e (some (.Name x pos')) pos.line X.env = pure false := by rfl) (hf : X.fn x = true ∨ X.env.scope.names.lookup x = some .local := by first | exact .inl rfl | exact .inr rfl | assumption) :
    PDS X W (.Assign [.Name x pos'] e pos) (dSet i te) :=
  PSw (ps_set hN hi hx he hs hf) fun D σ H ⟨G, M, δ, E, ok, sl, h, eo⟩ => ⟨G, M, δ, _, _, ok, sl, h, fun d M1 v H1 G1 h1 ok1 e1 r1 => eo.nx _ _ _ _ _ h1 ok1 e1 (Slots.set (.yes r1) i (sl.mono e1)), eo.xc⟩
/-- name = [..] on one line, the name a local -/
theorem pds_setLcM {i j : Nat} {y x : Str} {py : Pos} {elt tg iter : Expr} {ifs : List Expr} {scope : Scope} {pos spos : Pos} {ti : DI} {tt : DT} {te : DE} (hc : X.calm = true) (hN : X.N.Nodup) (hy : X.N[i]? = some y) (hyl : X.env.scope.names.lookup y = some .local)
    (hsw : swapsWith (.ListComp elt [⟨tg, iter, ifs, 0⟩] scope pos) (some (.Name y py)) spos.line X.env = pure true) (hi : PDI X W tg iter ti) (ok : BlkOk X.N X.env.scope scope [(x, j)])
    (hg : ∀ (s : Shared) (H : Hp) (C : Addr) (cl : List (Str × Addr)) (fp : List Addr), PG (X.blk s H scope (compEnvC scope cl C X.env) fp) tg (gName j)) (ht : ∀ (s : Shared) (H : Hp) (C : Addr) (cl : List (Str × Addr)) (fp : List Addr), PDTs (X.blk s H scope (compEnvC scope cl C X.env) fp) W0 ifs tt)
    (he : ∀ (s : Shared) (H : Hp) (C : Addr) (cl : List (Str × Addr)) (fp : List Addr), PD (X.blk s H scope (compEnvC scope cl C X.env) fp) W0 elt te) (hs : ∀ x, foldedSetIterable iter X.env x = pure x := by intro _; rfl) :
    PDS X W (.Assign [.Name y py] (.ListComp elt [⟨tg, iter, ifs, 0⟩] scope pos) spos) (dSet i (dLcM ti j tt te)) :=
  PSw (ps_setLc hc hN hy hyl hsw hi ok hg ht he hs) fun D σ H ⟨G, M, δ, E, ok, sl, h, eo⟩ => up_lc (W := W) ⟨G, M, δ, _, _, ok, sl, h, fun d M1 v H1 G1 h1 ok1 e1 r1 => eo.nx _ _ _ _ _ h1 ok1 e1 (Slots.set (.yes r1) i (sl.mono e1)), eo.xc⟩
theorem pds_setLc {i j : Nat} {y x : Str} {py : Pos} {elt tg iter : Expr} {ifs : List Expr} {scope : Scope} {pos spos : Pos} {ti : DI} {tt : DT} {te : DE} (hc : X.calm = true) (hN : X.N.Nodup) (hy : X.N[i]? = some y) (hyl : X.env.scope.names.lookup y = some .local)
    (hsw : swapsWith (.ListComp elt [⟨tg, iter, ifs, 0⟩] scope pos) (some (.Name y py)) spos.line X.env = pure true) (hi : PDI X W tg iter ti) (ok : BlkOk X.N X.env.scope scope [(x, j)])
    (hg : ∀ (s : Shared) (H : Hp) (C : Addr) (cl : List (Str × Addr)) (fp : List Addr), PG (X.blk s H scope (compEnvC scope cl C X.env) fp) tg (gName j)) (ht : ∀ (s : Shared) (H : Hp) (C : Addr) (cl : List (Str × Addr)) (fp : List Addr), PDTs (X.blk s H scope (compEnvC scope cl C X.env) fp) W0 ifs tt)
    (he : ∀ (s : Shared) (H : Hp) (C : Addr) (cl : List (Str × Addr)) (fp : List Addr), PD (X.blk s H scope (compEnvC scope cl C X.env) fp) W0 elt te) (hs : ∀ x, foldedSetIterable iter X.env x = pure x := by intro _; rfl) :
    PDS X W (.Assign [.Name y py] (.ListComp elt [⟨tg, iter, ifs, 0⟩] scope pos) spos) (dSet i (dLc ti j tt te)) :=
  PSw (ps_setLc hc hN hy hyl hsw hi ok hg ht he hs) fun D σ H ⟨G, M, δ, E, ok, sl, h, eo⟩ => up_lc (W := W) (up_frz ⟨G, M, δ, _, _, ok, sl, h, fun d M1 v H1 G1 h1 ok1 e1 r1 => eo.nx _ _ _ _ _ h1 ok1 e1 (Slots.set (.yes r1) i (sl.mono e1)), eo.xc⟩)
end

/-! ### d[k] = v -/
def elD : Option MO → (List (Str × D) → Prop) → Prop
  | some (.dic kvs), F => F kvs
  | _, _ => False
theorem elD_of {o : Option MO} {F : List (Str × D) → Prop} (h : elD o F) : ∃ ds, o = some (.dic ds) ∧ F ds := by
  cases o with
  | none => exact h.elim
  | some m => cases m with
    | dic ds => exact ⟨ds, rfl, h⟩
    | lst _ => exact h.elim
    | ins _ _ => exact h.elim
def dput : List (Str × D) → Str → D → List (Str × D)
  | [], k, d => [(k, d)]
  | (k', d') :: r, k, d => if k' = k then (k, d) :: r else (k', d') :: dput r k d
def putDic (x k v : D) (M : Mem) (F : Mem → Prop) : Prop := match x, k with
  | .obj a, .str s => elD (M a) fun kvs => few 99 (kvs.map (·.2)) ∧ (kvs.map (·.1)).Nodup ∧ F (M.set a (.dic (dput kvs s v)))
  | _, _ => False
def dPut (td tk tv : DE) : DSt := fun E δ M => tv δ M (fun v M1 => td δ M1 (fun x M2 => tk δ M2 (fun k M3 => putDic x k v M3 fun M4 => E.nx δ M4) E.xc) E.xc) E.xc
section
variable {X : Cx} {W : WX} {K : PySem.W.Frag} {o i value : Expr} {td tk tv : DE} {pos pos' : Pos}
theorem dput_rel {G : Hp} {s : Str} {d : D} {v : V} (rv : Rep K G v d) : ∀ {ds : List (Str × D)} {kv : List (Key × V)}, kv.map (·.1) = ds.map (fun p => (Sum.inr p.1 : Key)) → RepL K G (kv.map (·.2)) (ds.map (·.2)) → (ds.map (·.1)).Nodup →
    (putK kv (Sum.inr s) v).map (·.1) = (dput ds s d).map (fun p => (Sum.inr p.1 : Key)) ∧ RepL K G ((putK kv (Sum.inr s) v).map (·.2)) ((dput ds s d).map (·.2)) := by
  have nomatch_ : ∀ {ds : List (Str × D)} {kv : List (Key × V)}, kv.map (·.1) = ds.map (fun p => (Sum.inr p.1 : Key)) → s ∉ ds.map (·.1) → valV kv (Sum.inr s) = none := by
    intro ds
    induction ds with
    | nil => intro kv h _; cases kv with
      | nil => rfl
      | cons _ _ => cases h
    | cons p r ih =>
      intro kv h hn
      cases kv with
      | nil => rfl
      | cons q t =>
        simp only [List.map_cons, List.cons.injEq] at h
        simp only [List.map_cons, List.mem_cons, not_or] at hn
        rw [valV_neg (by rw [h.1]; exact fun z => hn.1 (Sum.inr.inj z).symm)]
        exact ih h.2 hn.2
  have mapsame : ∀ {ds : List (Str × D)} {kv : List (Key × V)}, kv.map (·.1) = ds.map (fun p => (Sum.inr p.1 : Key)) → s ∉ ds.map (·.1) → kv.map (fun kv : Key × V => if kv.1 = Sum.inr s then (kv.1, v) else kv) = kv := by
    intro ds
    induction ds with
    | nil => intro kv h _; cases kv with
      | nil => rfl
      | cons _ _ => cases h
    | cons p r ih =>
      intro kv h hn
      cases kv with
      | nil => rfl
      | cons q t =>
        simp only [List.map_cons, List.cons.injEq] at h
        simp only [List.map_cons, List.mem_cons, not_or] at hn
        rw [List.map_cons, if_neg (by rw [h.1]; exact fun z => hn.1 (Sum.inr.inj z).symm), ih h.2 hn.2]
  intro ds
  induction ds with
  | nil =>
    intro kv h r _
    cases kv with
    | nil =>
      have : putK ([] : List (Key × V)) (Sum.inr s) v = [(Sum.inr s, v)] := rfl
      rw [this]
      exact ⟨rfl, .one rv⟩
    | cons _ _ => cases h
  | cons p r ih =>
    intro kv h q nd
    cases kv with
    | nil => cases h
    | cons y t =>
      obtain ⟨k, d'⟩ := p
      obtain ⟨k', v'⟩ := y
      simp only [List.map_cons, List.cons.injEq] at h
      obtain ⟨h1, h2⟩ := h
      subst h1
      have nd' := List.nodup_cons.mp nd
      cases q with
      | cons q1 q2 =>
        unfold dput
        by_cases e : k = s
        · subst e
          rw [if_pos rfl]
          have hp : putK ((Sum.inr k, v') :: t) (Sum.inr k) v = (Sum.inr k, v) :: t := by
            unfold putK
            rw [if_pos (by simp)]
            rw [List.map_cons, if_pos rfl, mapsame h2 nd'.1]
          rw [hp]
          exact ⟨by simp only [List.map_cons]; rw [h2], .cons rv q2⟩
        · rw [if_neg e]
          obtain ⟨i1, i2⟩ := ih h2 q2 nd'.2
          have hp : putK ((Sum.inr k, v') :: t) (Sum.inr s) v = (Sum.inr k, v') :: putK t (Sum.inr s) v := by
            have ne : ¬ (Sum.inr k : Key) = Sum.inr s := fun z => e (Sum.inr.inj z)
            unfold putK
            rw [List.any_cons, decide_eq_false ne, Bool.false_or]
            split
            · rw [List.map_cons, if_neg ne]
            · rfl
          rw [hp]
          exact ⟨by simp only [List.map_cons]; rw [i1], .cons q1 i2⟩
theorem dput_len (ds : List (Str × D)) (s : Str) (d : D) : (dput ds s d).length ≤ ds.length + 1 := by
  induction ds with
  | nil => exact Nat.le_refl _
  | cons p r ih =>
    obtain ⟨k, d'⟩ := p
    unfold dput
    split
    · simp
    · simp only [List.length_cons]; omega
theorem pds_put (hu : X.A.units + 1 < cLine) (ho : PD X W o td) (hi : PD X W i tk) (hv : PD X W value tv) (hs : swapsWith value (some (.Subscript o i pos')) pos.line X.env = pure false := by rfl) :
    PDS X W (.Assign [.Subscript o i pos'] value pos) (dPut td tk tv) :=
  PSw (ps_dput hu ho hi hv hs) fun D σ H ⟨G, M, δ, E, ok, sl, h, eo⟩ => ⟨G, M, δ, _, _, ok, sl, h, fun d M1 v H1 G1 h1 ok1 e1 r1 => ⟨G1, M1, δ, _, _, ok1, sl.mono e1, h1, fun x M2 xv H2 G2 h2 ok2 e2 r2 =>
    ⟨G2, M2, δ, _, _, ok2, (sl.mono e1).mono e2, h2, fun k M3 kv H3 G3 h3 ok3 e3 r3 => by
      unfold putDic at h3
      split at h3
      · obtain ⟨kvs, m, f, nd, h4⟩ := elD_of h3
        obtain ⟨g, kk, hH, k1, q⟩ := ok3.mem _ _ m
        cases r2
        cases r3
        have hl : kk.length = kvs.length := by have := congrArg List.length k1; simpa using this
        have hz := few_le f
        rw [List.length_map] at hz
        obtain ⟨i1, i2⟩ := dput_rel ((r1.mono e2).mono e3) k1 q nd
        exact ⟨_, _, rfl, .inl ⟨kk, .inr _, hH, rfl, small1000 (by omega), rfl⟩, eo.nx _ _ _ _ _ h4 (ok3.write (m := .dic _) g ⟨_, upd_same, i1, i2⟩) (e1.trans (e2.trans e3)) (sl.mono (e1.trans (e2.trans e3)))⟩
      · exact h3.elim, eo.xc.mono (e1.trans e2)⟩, eo.xc.mono e1⟩, eo.xc⟩
end

/-! ### the fields of an instance -/
def elI (C : Addr) : Option MO → (List (Str × D) → Prop) → Prop
  | some (.ins C' fs), F => C' = C ∧ F fs
  | _, _ => False
theorem elI_of {C : Addr} {o : Option MO} {F : List (Str × D) → Prop} (h : elI C o F) : ∃ ds, o = some (.ins C ds) ∧ F ds := by
  cases o with
  | none => exact h.elim
  | some m => cases m with
    | ins C' ds => obtain ⟨e, h⟩ := h; subst e; exact ⟨ds, rfl, h⟩
    | lst _ => exact h.elim
    | dic _ => exact h.elim
def getFld (C : Addr) (f : Str) (x : D) (M : Mem) (Q : QD) : Prop := match x with
  | .obj a => elI C (M a) fun fs => el (look fs f) fun d => Q d M
  | _ => False
def dFld (C : Addr) (f : Str) (t : DE) : DE := fun δ M Q X => t δ M (fun x M1 => getFld C f x M1 Q) X
def setFld (C : Addr) (f : Str) (x v : D) (M : Mem) (F : Mem → Prop) : Prop := match x with
  | .obj a => elI C (M a) fun fs => few 99 (fs.map (·.2)) ∧ F (M.set a (.ins C (dput fs f v)))
  | _ => False
def dFldS (C : Addr) (f : Str) (to tv : DE) : DSt := fun E δ M => tv δ M (fun v M1 => to δ M1 (fun x M2 => setFld C f x v M2 fun M3 => E.nx δ M3) E.xc) E.xc
section
variable {X : Cx} {W : WX} {K : PySem.W.Frag} {o e value : Expr} {te to tv : DE} {pos pos' : Pos} {C : Addr} {f : Str}
theorem look_flds {G : Hp} {x : Str} {d : D} : ∀ {ds : List (Str × D)} {fv : List (Str × V)}, fv.map (·.1) = ds.map (·.1) → RepL K G (fv.map (·.2)) (ds.map (·.2)) → look ds x = some d → ∃ v, fv.lookup x = some v ∧ Rep K G v d
  | [], _, _, _, h => by cases h
  | (k, d') :: r, [], h, _, _ => by cases h
  | (k, d') :: r, (k', v') :: r', h1, h2, h3 => by
    simp only [List.map_cons, List.cons.injEq] at h1
    obtain ⟨e1, h1⟩ := h1
    subst e1
    cases h2 with
    | cons q t =>
      unfold look at h3
      by_cases e : k' = x
      · rw [if_pos e] at h3; cases h3
        exact ⟨v', by subst e; simp [List.lookup], q⟩
      · rw [if_neg e] at h3
        obtain ⟨v, e1, e2⟩ := look_flds h1 t h3
        refine ⟨v, ?_, e2⟩
        have : (x == k') = false := beq_eq_false_iff_ne.mpr (Ne.symm e)
        simp only [List.lookup, this]
        exact e1
theorem look_flds_none {x : Str} : ∀ {ds : List (Str × D)} {fv : List (Str × V)}, fv.map (·.1) = ds.map (·.1) → look ds x = none → fv.lookup x = none
  | [], [], _, _ => rfl
  | [], _ :: _, h, _ => by cases h
  | (k, d') :: r, [], h, _ => by cases h
  | (k, d') :: r, (k', v') :: r', h1, h3 => by
    simp only [List.map_cons, List.cons.injEq] at h1
    obtain ⟨e1, h1⟩ := h1
    subst e1
    unfold look at h3
    by_cases e : k' = x
    · rw [if_pos e] at h3; cases h3
    · rw [if_neg e] at h3
      have : (x == k') = false := beq_eq_false_iff_ne.mpr (Ne.symm e)
      simp only [List.lookup, this]
      exact look_flds_none h1 h3
theorem putF_rel {G : Hp} {s : Str} {d : D} {v : V} (rv : Rep K G v d) : ∀ {ds : List (Str × D)} {fv : List (Str × V)}, fv.map (·.1) = ds.map (·.1) → RepL K G (fv.map (·.2)) (ds.map (·.2)) →
    (putF s v fv).map (·.1) = (dput ds s d).map (·.1) ∧ RepL K G ((putF s v fv).map (·.2)) ((dput ds s d).map (·.2))
  | [], [], _, _ => ⟨rfl, .one rv⟩
  | [], _ :: _, h, _ => by cases h
  | (k, d') :: r, [], h, _ => by cases h
  | (k, d') :: r, (k', v') :: r', h1, h2 => by
    simp only [List.map_cons, List.cons.injEq] at h1
    obtain ⟨e1, h1⟩ := h1
    subst e1
    cases h2 with
    | cons q t =>
      unfold putF dput
      by_cases e : k' = s
      · rw [if_pos e, if_pos e]
        exact ⟨by simp only [List.map_cons]; rw [h1, e], .cons rv t⟩
      · rw [if_neg e, if_neg e]
        obtain ⟨i1, i2⟩ := putF_rel rv h1 t
        exact ⟨by simp only [List.map_cons]; rw [i1], .cons q i2⟩
theorem pd_fld (c : Cls X.K C) (n : NoAttr X.K C f) (he : PD X W e te) (hb : attributeBase e f X.env (eval e X.env) = eval e X.env := by rfl) : PD X W (.Attribute e f pos) (dFld C f te) :=
  PEw (pe_fld he hb) fun σ H Q ⟨G, M, δ, Q', X', ok, sl, h, hq, hx⟩ => ⟨G, M, δ, _, X', ok, sl, h, fun d M1 v H1 G1 h1 ok1 e1 r1 => by
    unfold getFld at h1
    split at h1
    · obtain ⟨fs, m, h2⟩ := elI_of h1
      obtain ⟨d, el, h2⟩ := el_of h2
      obtain ⟨g, dx, fv, hH, k, q⟩ := ok1.mem _ _ m
      cases r1
      obtain ⟨z, ez, rz⟩ := look_flds k q el
      exact ⟨_, C, dx, fv, z, rfl, hH, c, n, ez, hq _ _ _ _ _ h2 ok1 e1 rz⟩
    · exact h1.elim, hx⟩
theorem pds_fld (c : Cls X.K C) (n : NoAttr X.K C f) (ha : PD X W o to) (hv : PD X W value tv) (hs : swapsWith value (some (.Attribute o f pos')) pos.line X.env = pure false := by rfl) : PDS X W (.Assign [.Attribute o f pos'] value pos) (dFldS C f to tv) :=
  PSw (ps_fld ha hv hs) fun D σ H ⟨G, M, δ, E, ok, sl, h, eo⟩ => ⟨G, M, δ, _, _, ok, sl, h, fun d M1 v H1 G1 h1 ok1 e1 r1 => ⟨G1, M1, δ, _, _, ok1, sl.mono e1, h1, fun x M2 xv H2 G2 h2 ok2 e2 r2 => by
      unfold setFld at h2
      split at h2
      · obtain ⟨fs, m, f, h3⟩ := elI_of h2
        obtain ⟨g, dx, fv, hH, k, q⟩ := ok2.mem _ _ m
        cases r2
        have hl : fv.length = fs.length := by have := congrArg List.length k; simpa using this
        have hz := few_le f
        rw [List.length_map] at hz
        obtain ⟨i1, i2⟩ := putF_rel (r1.mono e2) k q
        exact ⟨_, C, dx, fv, rfl, hH, c, n, by omega, eo.nx _ _ _ _ _ h3 (ok2.write (m := .ins C _) g ⟨dx, _, upd_same, i1, i2⟩) (e1.trans e2) (sl.mono (e1.trans e2))⟩
      · exact h2.elim, eo.xc.mono e1⟩, eo.xc⟩
end

/-! ### for, while -/
abbrev DG := D → DS → Mem → (DS → Mem → Prop) → Prop
def upG (K : PySem.W.Frag) (t : DG) : TG := fun v σ H Q => ∃ (G : Hp) (M : Mem) (δ : DS) (d : D) (Q' : DS → Mem → Prop), Ok K H G M ∧ Slots K G σ δ ∧ Rep K G v d ∧ t d δ M Q' ∧ (∀ δ' M' σ' H' G', Q' δ' M' → Ok K H' G' M' → Same G G' → Slots K G' σ' δ' → Q σ' H')
abbrev PDG (X : Cx) (tg : Expr) (t : DG) : Prop := PG X tg (upG X.K t)
theorem PGw {X : Cx} {e : Expr} {t t' : TG} (h : PG X e t) (w : ∀ v σ H Q, t' v σ H Q → t v σ H Q) : PG X e t' := ⟨fun pins s σ H v u Q I r q => h.run pins s σ H v u Q I r (w v σ H Q q)⟩
def dgName (i : Nat) : DG := fun d δ M Q => Q (δ.set i (some d)) M
def two (d : D) (F : D → D → Prop) : Prop := match d with
  | .tup [x, y] => F x y
  | _ => False
def dgPair (i j : Nat) : DG := fun d δ M Q => two d fun x y => Q ((δ.set i (some x)).set j (some y)) M
def forL (g : DG) (tb : DSt) (E : DEnds) : List D → DS → Mem → Prop
  | [], δ, M => E.nx δ M
  | x :: xs, δ, M => g x δ M fun δ2 M2 => tb { E with nx := forL g tb E xs, ct := forL g tb E xs, bk := E.nx } δ2 M2
/-- by what holds between two turns -/
def forI (P : Mem → Prop) (g : DG) (tb : DSt) (E : DEnds) (items : List D) (δ : DS) (M : Mem) : Prop := ∃ Iv : Nat → DS → Mem → Prop, Iv 0 δ M ∧
  (∀ k x δ M, items[k]? = some x → Iv k δ M → P M ∧ g x δ M fun δ2 M2 => tb { E with nx := Iv (k + 1), ct := Iv (k + 1), bk := E.nx } δ2 M2) ∧ ∀ δ M, Iv items.length δ M → P M ∧ E.nx δ M
theorem forI_of {g : DG} {tb : DSt} {E : DEnds} {items : List D} {δ : DS} {M : Mem} (h : forL g tb E items δ M) : forI still g tb E items δ M := by
  refine ⟨fun k δ M => forL g tb E (items.drop k) δ M, h, fun k x δ M hx hk => ⟨trivial, ?_⟩, fun δ M hk => ⟨trivial, ?_⟩⟩
  · obtain ⟨hl, e⟩ := List.getElem?_eq_some_iff.mp hx
    have ed : items.drop k = items[k] :: items.drop (k + 1) := List.drop_eq_getElem_cons hl
    have hk : forL g tb E (items.drop k) δ M := hk
    rw [ed, e] at hk
    exact hk
  · have hk : forL g tb E (items.drop items.length) δ M := hk
    rw [List.drop_length] at hk
    exact hk
def dFor (ti : DI) (g : DG) (tb : DSt) : DSt := fun E δ M => ti δ M (fun items P M1 => forI P g tb E items δ M1) E.xc
def dWhile (c : DT) (tb : DSt) : DSt := fun E δ M => ∃ Iv : Nat → DS → Mem → Prop, (∃ m, Iv m δ M) ∧ ∀ m δ M, Iv m δ M →
  c δ M (fun b M1 => cond b (tb { E with nx := fun δ' M' => ∃ m', m' < m ∧ Iv m' δ' M', ct := fun δ' M' => ∃ m', m' < m ∧ Iv m' δ' M', bk := E.nx } δ M1) (E.nx δ M1)) E.xc
section
variable {X : Cx} {W : WX} {K : PySem.W.Frag} {pos : Pos}
theorem pdg_name {i : Nat} {x : Str} (hN : X.N.Nodup) (hi : X.N[i]? = some x) (hx : Loc X.env.scope x) (hf : X.fn x = true ∨ X.env.scope.names.lookup x = some .local := by first | exact .inl rfl | exact .inr rfl | assumption) : PDG X (.Name x pos) (dgName i) :=
  PGw (pg_name hN hi hx hf) fun v σ H Q ⟨G, M, δ, d, Q', ok, sl, r, h, hq⟩ => hq _ _ _ _ _ h ok (Same.refl _) (Slots.set (.yes r) i sl)
theorem pdg_pair {i j : Nat} {x y : Str} {p1 p2 : Pos} {k : Nat} (hc : X.calm = true) (hN : X.N.Nodup) (hi : X.N[i]? = some x) (hx : Loc X.env.scope x) (hj : X.N[j]? = some y) (hy : Loc X.env.scope y)
    (hn : (assignEach [.Name x p1, .Name y p2] X.env).length = 2 := by rfl) (hst : (assignEach [.Name x p1, .Name y p2] X.env).findIdx? (·.1) = none := by rfl)
    (h1 : (assignEach [.Name x p1, .Name y p2] X.env).map (·.2) = assign (.Name x p1) X.env :: (assignEach [.Name y p2] X.env).map (·.2) := by rfl)
    (h2 : (assignEach [.Name y p2] X.env).map (·.2) = assign (.Name y p2) X.env :: (assignEach [] X.env).map (·.2) := by rfl)
    (hf : X.fn x = true ∨ X.env.scope.names.lookup x = some .local := by first | exact .inl rfl | exact .inr rfl | assumption) (hf2 : X.fn y = true ∨ X.env.scope.names.lookup y = some .local := by first | exact .inl rfl | exact .inr rfl | assumption) : PDG X (.Tuple [.Name x p1, .Name y p2] k pos) (dgPair i j) :=
  PGw (pg_tup hc (pgs_cons (pg_name hN hi hx hf) (pgs_cons (pg_name hN hj hy hf2) pgs_nil h2) h1) hn hst) fun v σ H Q ⟨G, M, δ, d, Q', ok, sl, r, h, hq⟩ => by
    unfold dgPair two at h
    split at h
    · cases r with
      | tup hg q z =>
        cases q with
        | cons q1 q2 => cases q2 with
          | cons q2 q3 =>
            cases q3
            refine ⟨_, _, rfl, SqT.of (ok.sub _ _ hg), rfl, _, _, rfl, _, _, rfl, rfl, ?_⟩
            exact hq _ _ _ _ _ h ok (Same.refl _) (Slots.set (.yes q2) j (Slots.set (.yes q1) i sl))
    · exact h.elim
theorem for_up {ti : DI} {g : DG} {tb : DSt} : ∀ (D : Ends) (σ : L2.St) (H : Hp), upS X.K W (dFor ti g tb) D σ H → tFor (upI X.K W ti) (upG X.K g) (upS X.K W tb) D σ H := fun D σ H ⟨G, M, δ, E, ok, sl, h, eo⟩ => ⟨G, M, δ, _, _, ok, sl, h, fun items P M1 J H1 G1 h1 ok1 e1 it hz => by
    obtain ⟨Iv, i0, hst, hend⟩ := h1
    refine ⟨fun k m σ H2 => m = items.length - k ∧ k ≤ items.length ∧ ∃ (G2 : Hp) (M2 : Mem) (δ2 : DS), Ok X.K H2 G2 M2 ∧ Same G1 G2 ∧ Slots X.K G2 σ δ2 ∧ Iv k δ2 M2,
      ⟨items.length, by omega, Nat.zero_le _, G1, M1, δ, ok1, Same.refl _, sl.mono e1, i0⟩, ?_⟩
    rintro k m σ2 H2 ⟨rfl, hk, G2, M2, δ2, ok2, e2, sl2, hl⟩
    by_cases hlt : k < items.length
    · refine .inr ?_
      obtain ⟨hP, hl⟩ := hst k items[k] δ2 M2 (by simp [hlt]) hl
      obtain ⟨st, go⟩ := it k H2 G2 M2 ok2 e2 hP
      obtain ⟨g0, gy⟩ := go items[k] (by simp [hlt])
      refine ⟨g0, fun σ' H' => k + 1 ≤ items.length ∧ ∃ (G2 : Hp) (M2 : Mem) (δ2 : DS), Ok X.K H' G2 M2 ∧ Same G1 G2 ∧ Slots X.K G2 σ' δ2 ∧ Iv (k + 1) δ2 M2, fun σ' H' hn => ⟨items.length - (k + 1), by omega, rfl, hn.1, hn.2⟩, fun x H' y => ?_⟩
      obtain ⟨G3, ok3, e3, r3⟩ := gy x H' y
      refine ⟨G3, M2, δ2, items[k], _, ok3, sl2.mono e3, r3, hl, fun δ4 M4 σ4 H4 G4 h4 ok4 e4 sl4 => ?_⟩
      have ex := e1.trans (e2.trans (e3.trans e4))
      refine ⟨G4, M4, δ4, _, ok4, sl4, h4, ⟨fun δ5 M5 σ5 H5 G5 h5 ok5 e5 sl5 => ⟨hlt, G5, M5, δ5, ok5, e2.trans (e3.trans (e4.trans e5)), sl5, h5⟩, fun d M v H G' h ok s => eo.rt d M v H G' h ok (ex.trans s), fun δ5 M5 σ5 H5 G5 h5 ok5 e5 sl5 => eo.nx _ _ _ _ _ h5 ok5 (ex.trans e5) sl5,
        fun δ5 M5 σ5 H5 G5 h5 ok5 e5 sl5 => ⟨hlt, G5, M5, δ5, ok5, e2.trans (e3.trans (e4.trans e5)), sl5, h5⟩, eo.xc.mono ex⟩⟩
    · have e : k = items.length := by omega
      subst e
      obtain ⟨hP, hl⟩ := hend δ2 M2 hl
      obtain ⟨st, go⟩ := it items.length H2 G2 M2 ok2 e2 hP
      exact .inl ⟨st (Nat.le_refl _), eo.nx _ _ _ _ _ hl ok2 (e1.trans e2) sl2⟩, eo.xc⟩
theorem pds_for {tg iter : Expr} {body : List Stmt} {ti : DI} {g : DG} {tb : DSt} (hp : PassesOwn (model X.prog X.w) X.A X.env X.xe) (hc : X.calm = true) (hi : PDI X W tg iter ti) (hg : PDG X tg g) (hb : PDSs X W body tb)
    (hs : ∀ x, foldedSetIterable iter X.env x = pure x := by intro _; rfl) : PDS X W (.For tg iter body [] pos) (dFor ti g tb) := PSw (ps_for hp hc hi hg hb hs) for_up
theorem pds_while {c : Expr} {body : List Stmt} {tc : DT} {tb : DSt} (hp : PassesOwn (model X.prog X.w) X.A X.env X.xe) (hc : PDT X W c tc) (hb : PDSs X W body tb) : PDS X W (.While c body [] pos) (dWhile tc tb) :=
  PSw (ps_while hp hc hb) fun D σ H ⟨G, M, δ, E, ok, sl, ⟨Iv, ⟨m0, h0⟩, hs⟩, eo⟩ => by
    refine ⟨fun m σ H => ∃ (G2 : Hp) (M2 : Mem) (δ2 : DS), Ok X.K H G2 M2 ∧ Same G G2 ∧ Slots X.K G2 σ δ2 ∧ Iv m δ2 M2, ⟨m0, G, M, δ, ok, Same.refl _, sl, h0⟩, ?_⟩
    rintro m σ2 H2 ⟨G2, M2, δ2, ok2, e2, sl2, hi⟩
    refine ⟨G2, M2, δ2, _, _, ok2, sl2, hs m δ2 M2 hi, fun b M3 H3 G3 h3 ok3 e3 => ?_, eo.xc.mono e2⟩
    cases b with
    | false => rw [if_neg Bool.false_ne_true]; exact eo.nx _ _ _ _ _ h3 ok3 (e2.trans e3) (sl2.mono e3)
    | true =>
      rw [if_pos rfl]
      have ex := e2.trans e3
      refine ⟨fun σ' H' => ∃ m', m' < m ∧ ∃ (G2 : Hp) (M2 : Mem) (δ2 : DS), Ok X.K H' G2 M2 ∧ Same G G2 ∧ Slots X.K G2 σ' δ2 ∧ Iv m' δ2 M2, fun σ' H' ⟨m', l, q⟩ => ⟨m', l, q⟩, G3, M3, δ2, _, ok3, sl2.mono e3, h3, ?_⟩
      exact ⟨fun δ5 M5 σ5 H5 G5 ⟨m', l, h5⟩ ok5 e5 sl5 => ⟨m', l, G5, M5, δ5, ok5, ex.trans e5, sl5, h5⟩, fun d M v H G' h ok s => eo.rt d M v H G' h ok (ex.trans s), fun δ5 M5 σ5 H5 G5 h5 ok5 e5 sl5 => eo.nx _ _ _ _ _ h5 ok5 (ex.trans e5) sl5,
        fun δ5 M5 σ5 H5 G5 ⟨m', l, h5⟩ ok5 e5 sl5 => ⟨m', l, G5, M5, δ5, ok5, ex.trans e5, sl5, h5⟩, eo.xc.mono ex⟩
end
end DL

/-! The data layer: defs, calls, raise, try, the law's end -/
namespace DL
open PySem PySem.Spec PyProof.Rows L2

theorem okXN {P : Program} {w : World} {K : PySem.W.Frag} {mg : Str → Option Value} {base : Heap} {x qual : Str} {st : Stmt} {f : Addr} {fd : FuncData} {N ps : List Str} {k : Nat} {sp : Sp} (F : Fun K x qual st f fd) (S : FnScope N ps (defScope st)) (len : ∀ vs H Q E, sp vs H Q E → vs.length = ps.length)
    (hbody : ∀ (cdv : Value) (A : Around) (outer : List Env) (s : Shared) (H : Hp) (vs : List V) (Q : VK) (E : XK), Room k (A.deeper (envOfC qual (defScope st) s.heap.objs.size f cdv)) → sp vs H Q E →
      ∃ t, PSs (cxOf (L2N.CX P w) P w K mg base N qual (defScope st) f cdv A outer s H E) (defBody st) t ∧ t { nx := fun _ H' => Q .non H', rt := Q } (L2.start N vs) H) : FnOk P w K mg base (L2N.CX P w) (k + 1) f fd ps sp := by
  obtain ⟨oc, od, kV, doc, pm, an, cdv, ct, osl, rfl, lk, hcd⟩ := F.ex
  exact fn_of lk hcd S len fun A outer s H vs Q E hr hsp => hbody cdv A outer s H vs Q E hr hsp
/-! ### promises over data -/
abbrev FDm := List D → Mem → QD → (Addr → Mem → Prop) → Prop
def spD (K : PySem.W.Frag) (m : FDm) : Sp := fun vs H Q E => ∃ (G : Hp) (M : Mem) (ds : List D) (Q' : QD) (X' : Addr → Mem → Prop), Ok K H G M ∧ RepL K G vs ds ∧ m ds M Q' X' ∧
  (∀ d M' v H' G', Q' d M' → Ok K H' G' M' → Same G G' → Rep K G' v d → Q v H') ∧ (∀ cls M' H' G', X' cls M' → Ok K H' G' M' → Same G G' → E (.ref cls) none H')
abbrev FnD (P : Program) (w : World) (K : PySem.W.Frag) (mg : Str → Option Value) (base : Heap) (k : Nat) (f : Addr) (fd : FuncData) (ps : List Str) (m : FDm) : Prop := FnOk P w K mg base (L2N.CX P w) k f fd ps (spD K m)
/-- what stands at the end of a def: what may change and is not the caller's is forgotten -/
def retD (Q : QD) : QD := fun d M1 => ∃ M2 : Mem, M2.Sub M1 ∧ Q d M2
def retX (X : Addr → Mem → Prop) : XD := fun cls _ M1 => ∃ M2 : Mem, M2.Sub M1 ∧ X cls M2
def startD : Nat → List D → DS
  | 0, _ => []
  | n + 1, [] => none :: startD n []
  | n + 1, d :: r => some d :: startD n r
abbrev bodyE (Q : QD) (X : Addr → Mem → Prop) : DEnds := { nx := fun _ M1 => retD Q .non M1, rt := retD Q, xc := retX X }
theorem start_slots {K : PySem.W.Frag} {G : Hp} : ∀ {vs : List V} {ds : List D} (n : Nat), RepL K G vs ds → vs.length ≤ n → Slots K G (vs.map some ++ List.replicate (n - vs.length) none) (startD n ds)
  | _, _, 0, .nil, _ => .nil
  | _, _, n + 1, .nil, _ => .cons .no (start_slots n .nil (Nat.zero_le _))
  | _, _, 0, .cons _ _, h => absurd h (by simp)
  | v :: vs, d :: ds, n + 1, .cons r t, h => by
    have e : (n + 1) - (v :: vs).length = n - vs.length := by rw [List.length_cons]; omega
    rw [e]
    exact .cons (.yes r) (start_slots n t (by rw [List.length_cons] at h; omega))
section
variable {P : Program} {w : World} {K : PySem.W.Frag} {mg : Str → Option Value} {base : Heap}
abbrev WE0 (E : XK) : WX := fun c d _ H => E c d H
/-- THE RULE for a def over data -/
theorem okD {x qual : Str} {st : Stmt} {f : Addr} {fd : FuncData} {N ps : List Str} {k : Nat} {m : FDm} {t : DSt} (F : Fun K x qual st f fd) (S : FnScope N ps (defScope st)) (len : ∀ ds M Q X, m ds M Q X → ds.length = ps.length) (hn : ps.length ≤ N.length)
    (der : ∀ (cdv : Value) (A : Around) (outer : List Env) (s : Shared) (H : Hp) (E : XK), Room k (A.deeper (envOfC qual (defScope st) s.heap.objs.size f cdv)) →
      PDSs (cxOf (L2N.CX P w) P w K mg base N qual (defScope st) f cdv A outer s H E) (WE0 E) (defBody st) t)
    (read : ∀ ds M Q X, m ds M Q X → t (bodyE Q X) (startD N.length ds) M) : FnD P w K mg base (k + 1) f fd ps m := by
  refine okXN F S (fun vs H Q E ⟨G, M, ds, Q', X', ok, r, h, _, _⟩ => by rw [r.len]; exact len _ _ _ _ h) fun cdv A outer s H vs Q E hr ⟨G, M, ds, Q', X', ok, r, h, hq, hx⟩ => ?_
  refine ⟨_, der cdv A outer s H E hr, G, M, startD N.length ds, _, ok, ?_, read ds M Q' X' h, ?_⟩
  · have hl := r.len
    rw [len _ _ _ _ h] at hl
    exact start_slots N.length r (by rw [hl]; exact hn)
  · refine ⟨fun δ M1 σ H1 G1 ⟨M2, s2, q⟩ ok1 e1 sl1 => hq .non M2 .non H1 G1 q (ok1.weak s2) e1 .non, fun d M1 v H1 G1 ⟨M2, s2, q⟩ ok1 e1 r1 => hq d M2 v H1 G1 q (ok1.weak s2) e1 r1, fun _ _ _ _ _ z => z.elim, fun _ _ _ _ _ z => z.elim, fun cls δ M1 σ H1 G1 ⟨M2, s2, q⟩ ok1 e1 sl1 => hx cls M2 H1 G1 q (ok1.weak s2) e1⟩
end

/-! ### calls of defs -/
def dFn (m : FDm) (t : DA) : DE := fun δ M Q X => t δ M (fun ds M1 => m ds M1 Q fun cls M' => X cls δ M') X
def insIs (C : Addr) (f : Str) (x : D) (M : Mem) : Prop := match x with
  | .obj a => elI C (M a) fun fs => look fs f = none
  | _ => False
def dMth (C : Addr) (f : Str) (m : FDm) (to : DE) (t : DA) : DE := fun δ M Q X => to δ M (fun x M1 => insIs C f x M1 ∧ t δ M1 (fun ds M2 => m (x :: ds) M2 Q fun cls M' => X cls δ M') X) X
def dMk (C : Addr) (m : FDm) (t : DA) : DE := fun δ M Q X => t δ M (fun ds M1 => ∀ x, M1 x = none → m (.obj x :: ds) (M1.set x (.ins C [])) (fun d M2 => isN d = true ∧ Q (.obj x) M2) fun cls M' => X cls δ M') X
section
variable {X : Cx} {W : WX} {CXx : CXT} {k : Nat} {f C : Addr} {fd : FuncData} {ps : List Str} {m : FDm} {sp : Sp} {E : L2.St → XK} {x n : Str} {p pos apos : Pos} {e o : Expr} {es : List Expr} {to : DE} {t : DA}
theorem pd_call (tk : L2N.Takes X W) (F : FnD X.prog X.w X.K X.mg X.base k f fd ps m) (hr : Room k X.A) (hg : Gl X x) (hm : X.mg x = some (.ref f)) (hk : PySem.W.keepIn X.K (.ref f) = true) (hb : Binds X.K fd ps [])
    (ha : PDA X W (e :: es) t) (hdb : (x == ("__debug__" : Str)) = false := by decide) (he : starEach (e :: es) X.env = (false, eval e X.env) :: starEach es X.env := by rfl) (hpl : (backTo pos (starEach es X.env)).any (·.1) = false := by rfl) :
    PD X W (.Call (.Name x p) (e :: es) [] pos) (dFn m t) :=
  PEw (pe_callS F hr hg hm hk hb (fun σ => L2N.passAt tk σ) ha hdb he hpl) fun σ H Q ⟨G, M, δ, Q', X', ok, sl, h, hq, hx⟩ => ⟨G, M, δ, _, X', ok, sl, h, fun ds M1 vs H1 G1 h1 ok1 e1 r1 =>
    ⟨G1, M1, ds, Q', _, ok1, r1, h1, fun d M2 v H2 G2 h2 ok2 e2 r2 => hq _ _ _ _ _ h2 ok2 (e1.trans e2) r2, fun cls M2 H2 G2 h2 ok2 e2 => hx _ _ _ _ _ _ h2 ok2 (e1.trans e2) (sl.mono (e1.trans e2))⟩, hx⟩
theorem pd_call0 (tk : L2N.Takes X W) (F : FnD X.prog X.w X.K X.mg X.base k f fd ps m) (hr : Room k X.A) (hg : Gl X x) (hm : X.mg x = some (.ref f)) (hk : PySem.W.keepIn X.K (.ref f) = true) (hb : Binds X.K fd ps [])
    (hdb : (x == ("__debug__" : Str)) = false := by decide) : PD X W (.Call (.Name x p) [] [] pos) (dFn m dNil) := by
  refine ⟨fun pins s σ H Q I ⟨G, M, δ, Q', X', ok, sl, h, hq, hx⟩ => ?_⟩
  refine wpAny_Call_Name_kw (ld_glob I hg hm ?_ hdb)
  refine PySem.W.callWith_K0 I.kIn hk (run_fnS (E := fun σ => WE W σ) (us := []) F hr hb (L2N.passAt tk σ) I .nil ?_)
  exact ⟨G, M, [], Q', _, ok, .nil, h, hq, fun cls M2 H2 G2 h2 ok2 e2 => hx _ _ _ _ _ _ h2 ok2 e2 (sl.mono e2)⟩
/-- o.m(e, ..), what is raised wished for at the slots -/
def tMethX (C : Addr) (m : Str) (sp : Sp) (E : L2.St → XK) (ta : TE) (t : TA) : TE := fun σ H Q => ta σ H fun x H1 => ∃ a dx fs, x = .ref a ∧ H1 a = some (.ins C dx fs) ∧ fs.lookup m = none ∧ t σ H1 fun vs H2 => sp (x :: vs) H2 Q (E σ)
theorem pe_methX {pl : Sem Bool} {ta : TE} {t : TA} (he : PE X o ta) (c : Cls X.K C) (hm : Meth X.K C n f) (F : FnOk X.prog X.w X.K X.mg X.base CXx k f fd ps sp) (hr : Room k X.A) (hb : Binds X.K fd ps []) (hx : ∀ σ, PassesAt CXx X σ (E σ)) (ha : PA X (e :: es) t)
    (hst : starEach (e :: es) X.env = (false, eval e X.env) :: starEach es X.env := by rfl) (hpl : (backTo pos (starEach es X.env)).any (·.1) = false := by rfl)
    (ht : eval (.Call (.Attribute o n apos) (e :: es) [] pos) X.env = (do
      let ov ← eval o X.env
      standAt apos.atName
      let (f, first) ← holding [ov] (getMethod ov n pl)
      callWith pos f first (backTo pos (starEach (e :: es) X.env)) (backToKw pos (keywordEach [] X.env))) := by rfl) :
    PE X (.Call (.Attribute o n apos) (e :: es) [] pos) (tMethX C n sp E ta t) := by
  refine ⟨fun pins s σ H Q I h => ?_⟩
  refine PySem.W.methodCall_KW (pl := pl) (thn (he.run pins s σ H _ I h) fun u s1 ⟨x, H1, I1, rx, a, dx, fs, ex, ea, l, q⟩ => ?_) ht
  subst ex
  obtain rfl : u = Value.ref a := rx
  refine getmeth_ok I1 ea c hm l ?_
  refine PySem.W.callWith_K (first := [.ref a]) (h₀ := X.base) I.ok.mod.kin hm.kp (thn (ha.run pos pins s1 σ H1 _ I1 q) fun us s2 ⟨vs, H2, I2, r, q2⟩ => ⟨I2.kIn, ?_⟩) hst hpl
  exact run_fnS (us := .ref a :: us) (vs := .ref a :: vs) F hr hb (hx σ) I2 (.cons rfl r) q2
theorem pe_methX0 {pl : Sem Bool} {ta : TE} (he : PE X o ta) (c : Cls X.K C) (hm : Meth X.K C n f) (F : FnOk X.prog X.w X.K X.mg X.base CXx k f fd ps sp) (hr : Room k X.A) (hb : Binds X.K fd ps []) (hx : ∀ σ, PassesAt CXx X σ (E σ))
    (ht : eval (.Call (.Attribute o n apos) [] [] pos) X.env = (do
      let ov ← eval o X.env
      standAt apos.atName
      let (f, first) ← holding [ov] (getMethod ov n pl)
      callWith pos f first (backTo pos (starEach [] X.env)) (backToKw pos (keywordEach [] X.env))) := by rfl) :
    PE X (.Call (.Attribute o n apos) [] [] pos) (tMethX C n sp E ta tNil) := by
  refine ⟨fun pins s σ H Q I h => ?_⟩
  refine PySem.W.methodCall_KW (pl := pl) (thn (he.run pins s σ H _ I h) fun u s1 ⟨x, H1, I1, rx, a, dx, fs, ex, ea, l, q⟩ => ?_) ht
  subst ex
  obtain rfl : u = Value.ref a := rx
  refine getmeth_ok I1 ea c hm l ?_
  exact PySem.W.callWith_K0 (first := [.ref a]) I1.kIn hm.kp (run_fnS (us := [.ref a]) (vs := [.ref a]) F hr hb (hx σ) I1 (.cons rfl .nil) q)
theorem ins_of {K : PySem.W.Frag} {H G : Hp} {M : Mem} {v : V} {d : D} (ok : Ok K H G M) (r : Rep K G v d) (h : insIs C n d M) : ∃ a dx fs, v = .ref a ∧ d = .obj a ∧ H a = some (.ins C dx fs) ∧ fs.lookup n = none := by
  unfold insIs at h
  split at h
  · obtain ⟨fs, m, l⟩ := elI_of h
    obtain ⟨g, dx, fv, hH, k, q⟩ := ok.mem _ _ m
    cases r
    exact ⟨_, dx, fv, rfl, rfl, hH, look_flds_none k l⟩
  · exact h.elim
theorem pd_meth {pl : Sem Bool} (tk : L2N.Takes X W) (he : PD X W o to) (c : Cls X.K C) (hm : Meth X.K C n f) (F : FnD X.prog X.w X.K X.mg X.base k f fd ps m) (hr : Room k X.A) (hb : Binds X.K fd ps []) (ha : PDA X W (e :: es) t)
    (hst : starEach (e :: es) X.env = (false, eval e X.env) :: starEach es X.env := by rfl) (hpl : (backTo pos (starEach es X.env)).any (·.1) = false := by rfl)
    (ht : eval (.Call (.Attribute o n apos) (e :: es) [] pos) X.env = (do
      let ov ← eval o X.env
      standAt apos.atName
      let (f, first) ← holding [ov] (getMethod ov n pl)
      callWith pos f first (backTo pos (starEach (e :: es) X.env)) (backToKw pos (keywordEach [] X.env))) := by rfl) :
    PD X W (.Call (.Attribute o n apos) (e :: es) [] pos) (dMth C n m to t) :=
  PEw (pe_methX (pl := pl) (E := fun σ => WE W σ) he c hm F hr hb (fun σ => L2N.passAt tk σ) ha hst hpl ht) fun σ H Q ⟨G, M, δ, Q', X', ok, sl, h, hq, hx⟩ => ⟨G, M, δ, _, X', ok, sl, h, fun d M1 v H1 G1 h1 ok1 e1 r1 => by
    obtain ⟨hi, h1⟩ := h1
    obtain ⟨a, dx, fs, ev, ed, hH, l⟩ := ins_of ok1 r1 hi
    refine ⟨a, dx, fs, ev, hH, l, G1, M1, δ, _, X', ok1, sl.mono e1, h1, fun ds M2 vs H2 G2 h2 ok2 e2 r2 => ?_, hx.mono e1⟩
    exact ⟨G2, M2, d :: ds, Q', _, ok2, .cons (r1.mono e2) r2, h2, fun d M3 v H3 G3 h3 ok3 e3 r3 => hq _ _ _ _ _ h3 ok3 (e1.trans (e2.trans e3)) r3, fun cls M3 H3 G3 h3 ok3 e3 => hx _ _ _ _ _ _ h3 ok3 (e1.trans (e2.trans e3)) (sl.mono (e1.trans (e2.trans e3)))⟩, hx⟩
theorem pd_meth0 {pl : Sem Bool} (tk : L2N.Takes X W) (he : PD X W o to) (c : Cls X.K C) (hm : Meth X.K C n f) (F : FnD X.prog X.w X.K X.mg X.base k f fd ps m) (hr : Room k X.A) (hb : Binds X.K fd ps [])
    (ht : eval (.Call (.Attribute o n apos) [] [] pos) X.env = (do
      let ov ← eval o X.env
      standAt apos.atName
      let (f, first) ← holding [ov] (getMethod ov n pl)
      callWith pos f first (backTo pos (starEach [] X.env)) (backToKw pos (keywordEach [] X.env))) := by rfl) :
    PD X W (.Call (.Attribute o n apos) [] [] pos) (dMth C n m to dNil) :=
  PEw (pe_methX0 (pl := pl) (E := fun σ => WE W σ) he c hm F hr hb (fun σ => L2N.passAt tk σ) ht) fun σ H Q ⟨G, M, δ, Q', X', ok, sl, h, hq, hx⟩ => ⟨G, M, δ, _, X', ok, sl, h, fun d M1 v H1 G1 h1 ok1 e1 r1 => by
    obtain ⟨hi, h1⟩ := h1
    obtain ⟨a, dx, fs, ev, ed, hH, l⟩ := ins_of ok1 r1 hi
    refine ⟨a, dx, fs, ev, hH, l, ?_⟩
    exact ⟨G1, M1, [d], Q', _, ok1, .one r1, h1, fun d M3 v H3 G3 h3 ok3 e3 r3 => hq _ _ _ _ _ h3 ok3 (e1.trans e3) r3, fun cls M3 H3 G3 h3 ok3 e3 => hx _ _ _ _ _ _ h3 ok3 (e1.trans e3) (sl.mono (e1.trans e3))⟩, hx⟩
/-- C(e, ..) -/
def tMakeX (C : Addr) (sp : Sp) (E : L2.St → XK) (t : TA) : TE := fun σ H Q => t σ H fun vs H1 => ∀ x dx, H1 x = none → H1 dx = none → dx ≠ x → sp (.ref x :: vs) (upd (upd H1 dx (.own x)) x (.ins C dx [])) (fun v H2 => v = .non ∧ Q (.ref x) H2) (E σ)
theorem pe_makeX {t : TA} (M : Mk X.K C f) (F : FnOk X.prog X.w X.K X.mg X.base CXx k f fd ps sp) (hr : Room (k + 1) X.A) (hg : Gl X x) (hm : X.mg x = some (.ref C)) (hb : Binds X.K fd ps []) (hx : ∀ σ, PassesAt CXx X σ (E σ))
    (ha : PA X (e :: es) t) (hdb : (x == ("__debug__" : Str)) = false := by decide) (he : starEach (e :: es) X.env = (false, eval e X.env) :: starEach es X.env := by rfl) (hpl : (backTo pos (starEach es X.env)).any (·.1) = false := by rfl) :
    PE X (.Call (.Name x p) (e :: es) [] pos) (tMakeX C sp E t) := by
  refine ⟨fun pins s σ H Q I h => ?_⟩
  refine wpAny_Call_Name_kw (ld_glob I hg hm ?_ hdb)
  refine PySem.W.callWith_K (h₀ := X.base) I.ok.mod.kin M.kp (thn (ha.run pos pins s σ H _ I h) fun us s1 ⟨vs, H1, I1, r, q⟩ => ⟨I1.kIn, ?_⟩) he hpl
  have hq := q (s1.heap.objs.size + 1) s1.heap.objs.size (I1.hok.fresh (Nat.le_succ _)) (I1.hok.fresh (Nat.le_refl _)) (Nat.ne_of_lt (Nat.lt_succ_self _))
  have I2 := Inv.made (C := C) I1
  have r2 : Vals (V.ref (s1.heap.objs.size + 1) :: vs) (Value.ref (s1.heap.objs.size + 1) :: us) := .cons rfl r
  have hl : (Value.ref (s1.heap.objs.size + 1) :: us).length = ps.length := by
    have e := r2.length
    rw [F.len _ _ _ _ hq] at e
    exact e.symm
  have b := hb { s1 with heap := (s1.heap.push PySem.W.emptyDict).push (PySem.W.instObj C s1.heap.objs.size) } (Value.ref (s1.heap.objs.size + 1) :: us) I2.kIn (by rw [List.append_nil]; exact hl)
  rw [List.append_nil] at b
  refine wpAny_call (make_map (f := f) I1.kIn M.makes M.init (beq_iff_eq.mp M.fn) (codeAny_mono (F.run _ X.stack _ _ ⟨Value.ref (s1.heap.objs.size + 1) :: us, []⟩ (Value.ref (s1.heap.objs.size + 1) :: us) _ _ (E σ) (hr.make C us [])
    (I2.env0.make C us []) b r2 hq) fun r s' hq' => ?_))
  cases r with
  | error e => exact hx σ pins _ _ e s' I2 hq'
  | ok fl =>
    cases fl with
    | ret u =>
      obtain ⟨v, H', I3, rv, ev, q3⟩ := I2.after hq'
      subst ev
      exact ⟨rv, ⟨V.ref (s1.heap.objs.size + 1), H', I3, rfl, q3⟩⟩
    | next => exact False.elim hq'
    | brk => exact False.elim hq'
    | cont => exact False.elim hq'
theorem pd_make (tk : L2N.Takes X W) (Mk' : Mk X.K C f) (F : FnD X.prog X.w X.K X.mg X.base k f fd ps m) (hr : Room (k + 1) X.A) (hg : Gl X x) (hm : X.mg x = some (.ref C)) (hb : Binds X.K fd ps [])
    (ha : PDA X W (e :: es) t) (hdb : (x == ("__debug__" : Str)) = false := by decide) (he : starEach (e :: es) X.env = (false, eval e X.env) :: starEach es X.env := by rfl) (hpl : (backTo pos (starEach es X.env)).any (·.1) = false := by rfl) :
    PD X W (.Call (.Name x p) (e :: es) [] pos) (dMk C m t) :=
  PEw (pe_makeX (E := fun σ => WE W σ) Mk' F hr hg hm hb (fun σ => L2N.passAt tk σ) ha hdb he hpl) fun σ H Q ⟨G, M, δ, Q', X', ok, sl, h, hq, hx⟩ => ⟨G, M, δ, _, X', ok, sl, h, fun ds M1 vs H1 G1 h1 ok1 e1 r1 => fun x dx hx0 hd0 hne => by
    have okd := ok1.extra (o := .own x) hd0
    have hx1 : (upd H1 dx (.own x)) x = none := by rw [upd_ne (Ne.symm hne)]; exact hx0
    have gx := okd.gnone hx1
    refine ⟨G1, M1.set x (.ins C []), .obj x :: ds, _, _, okd.write (m := .ins C []) gx ⟨dx, [], upd_same, rfl, .nil⟩, .cons (.obj x) r1, h1 x (ok1.mnone hx0), fun d M2 v H2 G2 h2 ok2 e2 r2 => ?_, fun cls M2 H2 G2 h2 ok2 e2 => hx _ _ _ _ _ _ h2 ok2 (e1.trans e2) (sl.mono (e1.trans e2))⟩
    obtain ⟨hn, h3⟩ := h2
    have ev : v = .non := by
      cases r2 <;> first | rfl | cases hn
    exact ⟨ev, hq _ _ _ _ _ h3 ok2 (e1.trans e2) (.obj x)⟩, hx⟩
end

/-! ### raise, try -/
def dTry (K : PySem.W.Frag) (c : Value) (t u : DSt) : DSt := fun E δ M => t { E with xc := fun cls δ' M' => PySem.W.exmOne K (.ref cls) c = some true ∧ u { E with xc := fun _ _ _ => False } δ' M' } δ M
section
variable {X : Cx} {W : WX} {C : Addr} {x m : Str} {j : Nat} {p p2 pos pos2 np pos' : Pos} {B newId initId : String} {bmB : List Value}
theorem pds_raise (tk : L2N.Takes X W) (hc : X.calm = true) (F : ExcBaseFacts B newId initId bmB) (q : PySem.W.excIn X.K C bmB newId = true) (gC : X.mg x = some (.ref C)) (kC : PySem.W.keepIn X.K (.ref C) = true) (r : Raises X (.ref C)) (hg : Gl X x)
    (hdb : (x == ("__debug__" : Str)) = false := by decide) : PDS X W (.Raise (some (.Call (.Name x p) [.Constant (.str m) j p2] [] pos)) none pos2) (dRaise C) :=
  PSw (L2N.ps_raise hc tk (L2N.pmk_own F q gC kC r hg hdb)) fun D σ H ⟨G, M, δ, E, ok, sl, h, eo⟩ => eo.xc _ _ _ _ _ _ h ok (Same.refl _) sl
theorem pds_try {c : Value} {body suite : List Stmt} {b₀ : Stmt} {t u : DSt} (hs : X.stack = X.env :: X.outer) (hf : X.env.frame = some X.env.locals) (hc : Names X x c) (tk : L2N.Takes X W)
    (hb : ∀ (W' : WX) (pn : List (Addr × Obj)) (xe : Value → Shared → Prop), L2N.Takes (X.tr pn xe) W' → PassesOwn (model X.prog X.w) X.A X.env xe → PDSs (X.tr pn xe) W' body t)
    (hsu : ∀ (a : Addr) (oe : Obj) (cls : Value) (d : Option Addr) (pn : List (Addr × Obj)), L2N.Zn cls d oe → (∃ vs, oe.data = .fields vs) → PDSs (X.suite a ((a, oe) :: pn)) W0 (b₀ :: suite) u) :
    PDS X W (.Try body [.ExceptHandler (some (.Name x np)) none (b₀ :: suite) pos'] [] [] pos) (dTry X.K c t u) :=
  PSw (L2N.ps_try_many (tb := fun W' => upS X.K W' t) (l := [(c, fun _ _ _ => upS X.K W0 u)]) hs hf tk hb (.cons hc hsu .nil)) fun D σ H ⟨G, M, δ, E, ok, sl, h, eo⟩ =>
    ⟨G, M, δ, _, ok, sl, h, ⟨eo.nx, eo.rt, eo.bk, eo.ct, fun cls δ' M' σ' H' G' ⟨hx, hu⟩ ok' e' sl' => ⟨true, hx, fun _ a ha => ⟨G', M', δ', _, ok', sl', hu, ⟨(eo.mono e').nx, (eo.mono e').rt, (eo.mono e').bk, (eo.mono e').ct, WOk.bot⟩⟩, fun z => nomatch z⟩⟩⟩
end

/-! ### the law's end -/
/-- the law: of a script handed in it gives True -/
def mLaw : FDm := fun ds M Q _ => ∃ ns : List Int, ds = [.scr ns] ∧ ns.length ≤ 63 ∧ ∀ M', Q (.bl true) M'
theorem walkD {l : PySem.W.OpenLaw} {k : Nat} {q : Program} {loose : List Str} {XP : (Str → Option Value) → Heap → Prop} {YP : World → Heap → Prop} {d : DefRec} {K : Params → PySem.W.Frag} {x : Str} (hn : l.most = some 63) (hdf : d.params.defaults = []) (hr : Room k callerA)
    (hY : ∀ (w : World) (h : Heap), YP w h → (K w.params).In h)
    (F : ∀ (w : World) (mg : Str → Option Value) (fa : Addr) (h : Heap), (K w.params).In h → h.Ns mainGlobals mg → mg d.name = some (.ref fa) →
      ∃ fd : FuncData, (∀ (s : Shared) (u : Value), BindsTo s fd ⟨[u], []⟩ [(x, u)]) ∧ ∀ base : Heap, (K w.params).In base → base.Ns mainGlobals mg → FnD l.prog w (K w.params) mg base k fa fd [x] mLaw) :
    PySem.W.WalkO q loose XP YP l.row.toRowW d [] (fun f vs => PySem.call f vs) :=
  L2.walk_of (n := 63) (CX := fun w => L2N.CX l.prog w) (sp := fun w => spD (K w.params) mLaw) hn (by rw [sizeLine_eq]; decide) hdf hr hY F (fun w H a ns hl _ hS => ⟨H, fun _ => none, [.scr ns], fun d _ => d = .bl true, fun _ _ => False, ⟨Same.refl _, fun _ _ z => nomatch z⟩, .one (.scr hS), ⟨ns, rfl, hl, fun M' => rfl⟩, fun d M' v H' G' (e : d = .bl true) ok s r => by subst e; cases r; rfl, fun _ _ _ _ z => z.elim⟩) fun w H s e s' z => by
    obtain ⟨_, _, _, _, _, _, _, _, _, _, _, _, z⟩ := z
    exact z.elim
end DL

/-! The data layer: a def by what the program's top has made of it; addresses; small lemmas for readings -/
namespace DL
open PySem PySem.Spec PyProof.Rows L2

section
variable (P : Program) (w : World) (K : PySem.W.Frag) (mg : Str → Option Value) (base : Heap)
def Has (x : Str) (ps : List Str) (k : Nat) (m : FDm) : Prop := ∃ (f : Addr) (fd : FuncData), mg x = some (.ref f) ∧ PySem.W.keepIn K (.ref f) = true ∧ Binds K fd ps [] ∧ FnD P w K mg base k f fd ps m
def HasM (C : Addr) (n : Str) (ps : List Str) (k : Nat) (m : FDm) : Prop := ∃ (f : Addr) (fd : FuncData), Meth K C n f ∧ Binds K fd ps [] ∧ FnD P w K mg base k f fd ps m
def HasI (C : Addr) (ps : List Str) (k : Nat) (m : FDm) : Prop := ∃ (f : Addr) (fd : FuncData), Mk K C f ∧ Binds K fd ps [] ∧ FnD P w K mg base k f fd ps m
end
section
variable {X : Cx} {W : WX} {k : Nat} {C : Addr} {ps : List Str} {m : FDm} {x n : Str} {p pos apos : Pos} {e o : Expr} {es : List Expr} {to : DE} {t : DA}
theorem pd_callH (tk : L2N.Takes X W) (F : Has X.prog X.w X.K X.mg X.base x ps k m) (hr : Room k X.A) (hg : Gl X x)
    (ha : PDA X W (e :: es) t) (hdb : (x == ("__debug__" : Str)) = false := by decide) (he : starEach (e :: es) X.env = (false, eval e X.env) :: starEach es X.env := by rfl) (hpl : (backTo pos (starEach es X.env)).any (·.1) = false := by rfl) :
    PD X W (.Call (.Name x p) (e :: es) [] pos) (dFn m t) := let ⟨f, fd, hm, hk, hb, F⟩ := F; pd_call tk F hr hg hm hk hb ha hdb he hpl
theorem pd_call0H (tk : L2N.Takes X W) (F : Has X.prog X.w X.K X.mg X.base x ps k m) (hr : Room k X.A) (hg : Gl X x) (hdb : (x == ("__debug__" : Str)) = false := by decide) : PD X W (.Call (.Name x p) [] [] pos) (dFn m dNil) :=
  let ⟨f, fd, hm, hk, hb, F⟩ := F; pd_call0 tk F hr hg hm hk hb hdb
theorem pd_methH {pl : Sem Bool} (tk : L2N.Takes X W) (he : PD X W o to) (c : Cls X.K C) (F : HasM X.prog X.w X.K X.mg X.base C n ps k m) (hr : Room k X.A) (ha : PDA X W (e :: es) t)
    (hst : starEach (e :: es) X.env = (false, eval e X.env) :: starEach es X.env := by rfl) (hpl : (backTo pos (starEach es X.env)).any (·.1) = false := by rfl)
    (ht : eval (.Call (.Attribute o n apos) (e :: es) [] pos) X.env = (do
      let ov ← eval o X.env
      standAt apos.atName
      let (f, first) ← holding [ov] (getMethod ov n pl)
      callWith pos f first (backTo pos (starEach (e :: es) X.env)) (backToKw pos (keywordEach [] X.env))) := by rfl) :
    PD X W (.Call (.Attribute o n apos) (e :: es) [] pos) (dMth C n m to t) := let ⟨f, fd, hm, hb, F⟩ := F; pd_meth (pl := pl) tk he c hm F hr hb ha hst hpl ht
theorem pd_meth0H {pl : Sem Bool} (tk : L2N.Takes X W) (he : PD X W o to) (c : Cls X.K C) (F : HasM X.prog X.w X.K X.mg X.base C n ps k m) (hr : Room k X.A)
    (ht : eval (.Call (.Attribute o n apos) [] [] pos) X.env = (do
      let ov ← eval o X.env
      standAt apos.atName
      let (f, first) ← holding [ov] (getMethod ov n pl)
      callWith pos f first (backTo pos (starEach [] X.env)) (backToKw pos (keywordEach [] X.env))) := by rfl) :
    PD X W (.Call (.Attribute o n apos) [] [] pos) (dMth C n m to dNil) := let ⟨f, fd, hm, hb, F⟩ := F; pd_meth0 (pl := pl) tk he c hm F hr hb ht
theorem pd_makeH (tk : L2N.Takes X W) (F : HasI X.prog X.w X.K X.mg X.base C ps k m) (hr : Room (k + 1) X.A) (hg : Gl X x) (hm : X.mg x = some (.ref C))
    (ha : PDA X W (e :: es) t) (hdb : (x == ("__debug__" : Str)) = false := by decide) (he : starEach (e :: es) X.env = (false, eval e X.env) :: starEach es X.env := by rfl) (hpl : (backTo pos (starEach es X.env)).any (·.1) = false := by rfl) :
    PD X W (.Call (.Name x p) (e :: es) [] pos) (dMk C m t) := let ⟨f, fd, hM, hb, F⟩ := F; pd_make tk hM F hr hg hm hb ha hdb he hpl
/-- a + b, a list that may change -/
def oAddM (x y : D) (M : Mem) (Q : QD) : Prop := match res M x, res M y with
  | .lst a, .lst b => a.length + b.length ≤ sizeLine ∧ ∀ p, M p = none → Q (.obj p) (M.set p (.lst (a ++ b)))
  | _, _ => False
theorem l_addM {K : PySem.W.Frag} : LOp K rCat oAddM := by
  intro x y H G M dx dy Q Q' ok rx ry h hq
  unfold oAddM at h
  split at h
  · rename_i as bs e1 e2
    obtain ⟨p1, v1, f1, h1, q1, z1⟩ := rx.lstOf ok e1
    obtain ⟨p2, v2, f2, h2, q2, z2⟩ := ry.lstOf ok e2
    refine ⟨p1, p2, v1, v2, f1, f2, h1, h2, by rw [q1.len, q2.len]; exact h.1, fun p hp => ?_⟩
    have gp := ok.gnone hp
    exact hq _ _ _ _ _ (h.2 p (ok.mnone hp)) (ok.write (m := .lst _) gp ⟨_, upd_same, q1.append q2, by rw [List.length_append]; exact h.1⟩) (Same.refl _) (.obj p)
  · exact h.elim
theorem pd_addM {a b : Expr} {ta tb : DE} (ha : PD X W a ta) (hb : PD X W b tb) : PD X W (.BinOp a .Add b pos) (dOp oAddM ta tb) := pd_op op_cat l_addM ha hb
end

theorem pd_globE {X : Cx} {W : WX} {x : Str} {v : V} {d : D} {pos : Pos} (hg : Gl X x) (h : ∃ u, X.mg x = some u ∧ RelV v u) (q : ∀ G, Rep X.K G v d) (hd : (x == ("__debug__" : Str)) = false := by decide) : PD X W (.Name x pos) (dC d) :=
  let ⟨_, hm, r⟩ := h; pd_glob hg hm r q hd
/-- where the classes stand -/
structure Adr where
  Room : Addr
  RoomError : Addr
  BadName : Addr
  BadWish : Addr
  BadNumber : Addr
  Known : Addr
  Stranger : Addr
  Outside : Addr
  Inside : Addr
  Reads : Addr
  Writes : Addr
  Asked : Addr
  BadText : Addr
  BadJournal : Addr

/-! readings by what is known: all by definition -/
theorem res_non {M : Mem}  : res M .non = .non := rfl
theorem res_bl {M : Mem} (b : Bool) : res M (.bl b) = (.bl b) := rfl
theorem res_int {M : Mem} (i : Int) : res M (.int i) = (.int i) := rfl
theorem res_str {M : Mem} (z : Str) : res M (.str z) = (.str z) := rfl
theorem res_lst {M : Mem} (xs : List D) : res M (.lst xs) = (.lst xs) := rfl
theorem res_tupE {M : Mem} (xs : List D) : res M (.tup xs) = (.tup xs) := rfl
theorem res_dic {M : Mem} (kvs : List (Str × D)) : res M (.dic kvs) = (.dic kvs) := rfl
theorem res_scr {M : Mem} (ns : List Int) : res M (.scr ns) = (.scr ns) := rfl
theorem res_ty {M : Mem} (n : String) : res M (.ty n) = (.ty n) := rfl
def addR (x y : D) (M : Mem) (Q : QD) : Prop := match x, y with
  | .int i, .int j => Q (.int (i + j)) M
  | .str a, .str b => a.length + b.length ≤ sizeLine ∧ Q (.str (a ++ b)) M
  | .lst a, .lst b => a.length + b.length ≤ sizeLine ∧ Q (.lst (a ++ b)) M
  | .tup a, .tup b => a.length + b.length ≤ sizeLine ∧ Q (.tup (a ++ b)) M
  | _, _ => False
theorem oAdd_eq {x y : D} {M : Mem} {Q : QD} : oAdd x y M Q = addR (res M x) (res M y) M Q := rfl
theorem addR_int {i j : Int} {M : Mem} {Q : QD} : addR (.int i) (.int j) M Q = Q (.int (i + j)) M := rfl
theorem addR_str {a b : Str} {M : Mem} {Q : QD} : addR (.str a) (.str b) M Q = (a.length + b.length ≤ sizeLine ∧ Q (.str (a ++ b)) M) := rfl
theorem addR_lst {a b : List D} {M : Mem} {Q : QD} : addR (.lst a) (.lst b) M Q = (a.length + b.length ≤ sizeLine ∧ Q (.lst (a ++ b)) M) := rfl
theorem addR_tup {a b : List D} {M : Mem} {Q : QD} : addR (.tup a) (.tup b) M Q = (a.length + b.length ≤ sizeLine ∧ Q (.tup (a ++ b)) M) := rfl
def addMR (x y : D) (M : Mem) (Q : QD) : Prop := match x, y with
  | .lst a, .lst b => a.length + b.length ≤ sizeLine ∧ ∀ p, M p = none → Q (.obj p) (M.set p (.lst (a ++ b)))
  | _, _ => False
theorem oAddM_eq {x y : D} {M : Mem} {Q : QD} : oAddM x y M Q = addMR (res M x) (res M y) M Q := rfl
theorem addMR_lst {a b : List D} {M : Mem} {Q : QD} : addMR (.lst a) (.lst b) M Q = (a.length + b.length ≤ sizeLine ∧ ∀ p, M p = none → Q (.obj p) (M.set p (.lst (a ++ b)))) := rfl
def intR (C : Int → Int → Prop) (g : Int → Int → D) (x y : D) (M : Mem) (Q : QD) : Prop := match x, y with
  | .int i, .int j => C i j ∧ Q (g i j) M
  | _, _ => False
def int0R (g : Int → Int → D) (x y : D) (M : Mem) (Q : QD) : Prop := match x, y with
  | .int i, .int j => Q (g i j) M
  | _, _ => False
def negR (x : D) (M : Mem) (Q : QD) : Prop := match x with
  | .int i => Q (.int (-i)) M
  | _ => False
theorem oInt_eq {C : Int → Int → Prop} {g : Int → Int → D} {x y : D} {M : Mem} {Q : QD} : oInt C g x y M Q = intR C g (res M x) (res M y) M Q := rfl
theorem intR_int {C : Int → Int → Prop} {g : Int → Int → D} {i j : Int} {M : Mem} {Q : QD} : intR C g (.int i) (.int j) M Q = (C i j ∧ Q (g i j) M) := rfl
theorem oInt0_eq {g : Int → Int → D} {x y : D} {M : Mem} {Q : QD} : oInt0 g x y M Q = int0R g (res M x) (res M y) M Q := rfl
theorem int0R_int {g : Int → Int → D} {i j : Int} {M : Mem} {Q : QD} : int0R g (.int i) (.int j) M Q = Q (g i j) M := rfl
theorem oNeg_eq {x : D} {M : Mem} {Q : QD} : oNeg x M Q = negR (res M x) M Q := rfl
theorem negR_int {i : Int} {M : Mem} {Q : QD} : negR (.int i) M Q = Q (.int (-i)) M := rfl
def eqR (neg : Bool) (o : Option Bool) (x y : D) (M : Mem) (Q : QD) : Prop := match o with
  | some b => Q (.bl (cond neg (!b) b)) M
  | none => flatN 9 x = true ∧ flatN 9 y = true ∧ Q (.bl (cond neg (!D.eqv x y) (D.eqv x y))) M
theorem oEqN_eq {neg : Bool} {x y : D} {M : Mem} {Q : QD} : oEqN neg x y M Q = eqR neg (eqS x y) (res M x) (res M y) M Q := rfl
theorem eqR_some {neg b : Bool} {x y : D} {M : Mem} {Q : QD} : eqR neg (some b) x y M Q = Q (.bl (cond neg (!b) b)) M := rfl
theorem eqR_none {neg : Bool} {x y : D} {M : Mem} {Q : QD} : eqR neg none x y M Q = (flatN 9 x = true ∧ flatN 9 y = true ∧ Q (.bl (cond neg (!D.eqv x y) (D.eqv x y))) M) := rfl
theorem eqS_non_non  : eqS .non .non = some true := rfl
theorem eqS_non_int {v : Int}  : eqS .non (.int v) = some false := rfl
theorem eqS_non_bl {v : Bool}  : eqS .non (.bl v) = some false := rfl
theorem eqS_non_str {v : Str}  : eqS .non (.str v) = some false := rfl
theorem eqS_non_lst {v : List D}  : eqS .non (.lst v) = none := rfl
theorem eqS_non_tup {v : List D}  : eqS .non (.tup v) = none := rfl
theorem eqS_int_non {u : Int}  : eqS (.int u) .non = some false := rfl
theorem eqS_int_int {u : Int} {v : Int}  : eqS (.int u) (.int v) = some (decide (u = v)) := rfl
theorem eqS_int_bl {u : Int} {v : Bool}  : eqS (.int u) (.bl v) = none := rfl
theorem eqS_int_str {u : Int} {v : Str}  : eqS (.int u) (.str v) = some false := rfl
theorem eqS_int_lst {u : Int} {v : List D}  : eqS (.int u) (.lst v) = none := rfl
theorem eqS_int_tup {u : Int} {v : List D}  : eqS (.int u) (.tup v) = none := rfl
theorem eqS_bl_non {u : Bool}  : eqS (.bl u) .non = some false := rfl
theorem eqS_bl_int {u : Bool} {v : Int}  : eqS (.bl u) (.int v) = none := rfl
theorem eqS_bl_bl {u : Bool} {v : Bool}  : eqS (.bl u) (.bl v) = some (decide (u = v)) := rfl
theorem eqS_bl_str {u : Bool} {v : Str}  : eqS (.bl u) (.str v) = some false := rfl
theorem eqS_bl_lst {u : Bool} {v : List D}  : eqS (.bl u) (.lst v) = none := rfl
theorem eqS_bl_tup {u : Bool} {v : List D}  : eqS (.bl u) (.tup v) = none := rfl
theorem eqS_str_non {u : Str}  : eqS (.str u) .non = some false := rfl
theorem eqS_str_int {u : Str} {v : Int}  : eqS (.str u) (.int v) = some false := rfl
theorem eqS_str_bl {u : Str} {v : Bool}  : eqS (.str u) (.bl v) = some false := rfl
theorem eqS_str_str {u : Str} {v : Str}  : eqS (.str u) (.str v) = some (decide (u = v)) := rfl
theorem eqS_str_lst {u : Str} {v : List D}  : eqS (.str u) (.lst v) = none := rfl
theorem eqS_str_tup {u : Str} {v : List D}  : eqS (.str u) (.tup v) = none := rfl
theorem eqS_lst_non {u : List D}  : eqS (.lst u) .non = none := rfl
theorem eqS_lst_int {u : List D} {v : Int}  : eqS (.lst u) (.int v) = none := rfl
theorem eqS_lst_bl {u : List D} {v : Bool}  : eqS (.lst u) (.bl v) = none := rfl
theorem eqS_lst_str {u : List D} {v : Str}  : eqS (.lst u) (.str v) = none := rfl
theorem eqS_lst_lst {u : List D} {v : List D}  : eqS (.lst u) (.lst v) = none := rfl
theorem eqS_lst_tup {u : List D} {v : List D}  : eqS (.lst u) (.tup v) = none := rfl
theorem eqS_tup_non {u : List D}  : eqS (.tup u) .non = none := rfl
theorem eqS_tup_int {u : List D} {v : Int}  : eqS (.tup u) (.int v) = none := rfl
theorem eqS_tup_bl {u : List D} {v : Bool}  : eqS (.tup u) (.bl v) = none := rfl
theorem eqS_tup_str {u : List D} {v : Str}  : eqS (.tup u) (.str v) = none := rfl
theorem eqS_tup_lst {u : List D} {v : List D}  : eqS (.tup u) (.lst v) = none := rfl
theorem eqS_tup_tup {u : List D} {v : List D}  : eqS (.tup u) (.tup v) = none := rfl
theorem eqS_obj_non {a : Addr}  : eqS (.obj a) .non = none := rfl
theorem eqS_non_obj {a : Addr}  : eqS .non (.obj a) = none := rfl
theorem eqS_obj_int {a : Addr} {v : Int}  : eqS (.obj a) (.int v) = none := rfl
theorem eqS_int_obj {a : Addr} {v : Int}  : eqS (.int v) (.obj a) = none := rfl
theorem eqS_obj_bl {a : Addr} {v : Bool}  : eqS (.obj a) (.bl v) = none := rfl
theorem eqS_bl_obj {a : Addr} {v : Bool}  : eqS (.bl v) (.obj a) = none := rfl
theorem eqS_obj_str {a : Addr} {v : Str}  : eqS (.obj a) (.str v) = none := rfl
theorem eqS_str_obj {a : Addr} {v : Str}  : eqS (.str v) (.obj a) = none := rfl
theorem eqS_obj_lst {a : Addr} {v : List D}  : eqS (.obj a) (.lst v) = none := rfl
theorem eqS_lst_obj {a : Addr} {v : List D}  : eqS (.lst v) (.obj a) = none := rfl
theorem eqS_obj_tup {a : Addr} {v : List D}  : eqS (.obj a) (.tup v) = none := rfl
theorem eqS_tup_obj {a : Addr} {v : List D}  : eqS (.tup v) (.obj a) = none := rfl
theorem eqS_obj_obj {a b : Addr} : eqS (.obj a) (.obj b) = none := rfl
def inR (neg : Bool) (x y : D) (M : Mem) (Q : QD) : Prop := match y with
  | .lst ds => flatD x = true ∧ ds.all flatD = true ∧ Q (.bl (cond neg (!inD x ds) (inD x ds))) M
  | .tup ds => flatD x = true ∧ ds.all flatD = true ∧ Q (.bl (cond neg (!inD x ds) (inD x ds))) M
  | .str z => (match x with
    | .str ⟨⟨[c]⟩⟩ => Q (.bl (cond neg (!decide (c ∈ z.cps.toList)) (decide (c ∈ z.cps.toList)))) M
    | _ => False)
  | _ => False
theorem oInN_eq {neg : Bool} {x y : D} {M : Mem} {Q : QD} : oInN neg x y M Q = inR neg x (res M y) M Q := rfl
theorem inR_lst {neg : Bool} {x : D} {ds : List D} {M : Mem} {Q : QD} : inR neg x (.lst ds) M Q = (flatD x = true ∧ ds.all flatD = true ∧ Q (.bl (cond neg (!inD x ds) (inD x ds))) M) := rfl
theorem inR_tup {neg : Bool} {x : D} {ds : List D} {M : Mem} {Q : QD} : inR neg x (.tup ds) M Q = (flatD x = true ∧ ds.all flatD = true ∧ Q (.bl (cond neg (!inD x ds) (inD x ds))) M) := rfl
theorem inR_str {neg : Bool} {c : Nat} {z : Str} {M : Mem} {Q : QD} : inR neg (.str ⟨#[c]⟩) (.str z) M Q = Q (.bl (cond neg (!decide (c ∈ z.cps.toList)) (decide (c ∈ z.cps.toList)))) M := rfl
theorem flatD_non  : flatD .non = true := rfl
theorem flatD_bl (b : Bool) : flatD (.bl b) = true := rfl
theorem flatD_int (i : Int) : flatD (.int i) = true := rfl
theorem flatD_str (z : Str) : flatD (.str z) = true := rfl
theorem asB_bl {b : Bool} {M : Mem} {Q : Bool → Mem → Prop} : asB (.bl b) M Q = Q b M := rfl
theorem isN_non  : isN .non = true := rfl
theorem isN_bl (b : Bool) : isN (.bl b) = false := rfl
theorem isN_int (i : Int) : isN (.int i) = false := rfl
theorem isN_str (z : Str) : isN (.str z) = false := rfl
theorem isN_lst (xs : List D) : isN (.lst xs) = false := rfl
theorem isN_tup (xs : List D) : isN (.tup xs) = false := rfl
theorem isN_dic (kvs : List (Str × D)) : isN (.dic kvs) = false := rfl
theorem isN_scr (ns : List Int) : isN (.scr ns) = false := rfl
theorem isN_ty (n : String) : isN (.ty n) = false := rfl
theorem isN_obj (a : Addr) : isN (.obj a) = false := rfl
def frzR (r d : D) (M : Mem) (Q : QD) : Prop := match r, d with
  | .lst ds, .obj a => Q (.lst ds) (M.del a)
  | .dic kvs, .obj a => Q (.dic kvs) (M.del a)
  | _, .obj _ => False
  | _, d => Q d M
theorem frz_obj {a : Addr} {M : Mem} {Q : QD} : frz (.obj a) M Q = frzR (res M (.obj a)) (.obj a) M Q := rfl
theorem frzR_lst {a : Addr} {ds : List D} {M : Mem} {Q : QD} : frzR (.lst ds) (.obj a) M Q = Q (.lst ds) (M.del a) := rfl
theorem frzR_dic {a : Addr} {ds : List (Str × D)} {M : Mem} {Q : QD} : frzR (.dic ds) (.obj a) M Q = Q (.dic ds) (M.del a) := rfl
theorem frz_non  {M : Mem} {Q : QD} : frz .non M Q = Q .non M := rfl
theorem frz_bl (b : Bool) {M : Mem} {Q : QD} : frz (.bl b) M Q = Q (.bl b) M := rfl
theorem frz_int (i : Int) {M : Mem} {Q : QD} : frz (.int i) M Q = Q (.int i) M := rfl
theorem frz_str (z : Str) {M : Mem} {Q : QD} : frz (.str z) M Q = Q (.str z) M := rfl
theorem frz_lst (xs : List D) {M : Mem} {Q : QD} : frz (.lst xs) M Q = Q (.lst xs) M := rfl
theorem frz_tup (xs : List D) {M : Mem} {Q : QD} : frz (.tup xs) M Q = Q (.tup xs) M := rfl
theorem frz_dic (kvs : List (Str × D)) {M : Mem} {Q : QD} : frz (.dic kvs) M Q = Q (.dic kvs) M := rfl
theorem frz_scr (ns : List Int) {M : Mem} {Q : QD} : frz (.scr ns) M Q = Q (.scr ns) M := rfl
theorem frz_ty (n : String) {M : Mem} {Q : QD} : frz (.ty n) M Q = Q (.ty n) M := rfl
def ixR (x y : D) (M : Mem) (Q : QD) : Prop := match x, y with
  | .lst ds, .int i => el (nth ds i) fun d => Q d M
  | .tup ds, .int i => el (nth ds i) fun d => Q d M
  | .scr ns, .int i => el (nth ns i) fun n => Q (.int n) M
  | .str z, .int i => el (nth z.cps.toList i) fun c => Q (.str ⟨#[c]⟩) M
  | .dic kvs, .str k => el (look kvs k) fun d => Q d M
  | _, _ => False
theorem oIx_eq {x y : D} {M : Mem} {Q : QD} : oIx x y M Q = ixR (res M x) y M Q := rfl
theorem ixR_lst {ds : List D} {i : Int} {M : Mem} {Q : QD} : ixR (.lst ds) (.int i) M Q = el (nth ds i) fun d => Q d M := rfl
theorem ixR_tup {ds : List D} {i : Int} {M : Mem} {Q : QD} : ixR (.tup ds) (.int i) M Q = el (nth ds i) fun d => Q d M := rfl
theorem ixR_scr {ns : List Int} {i : Int} {M : Mem} {Q : QD} : ixR (.scr ns) (.int i) M Q = el (nth ns i) fun n => Q (.int n) M := rfl
theorem ixR_str {z : Str} {i : Int} {M : Mem} {Q : QD} : ixR (.str z) (.int i) M Q = el (nth z.cps.toList i) fun c => Q (.str ⟨#[c]⟩) M := rfl
theorem ixR_dic {kvs : List (Str × D)} {k : Str} {M : Mem} {Q : QD} : ixR (.dic kvs) (.str k) M Q = el (look kvs k) fun d => Q d M := rfl
theorem nth_0 {α : Type} {x0 : α} {r : List α} : nth (x0 :: r) 0 = some x0 := rfl
theorem nth_1 {α : Type} {x0 x1 : α} {r : List α} : nth (x0 :: x1 :: r) 1 = some x1 := rfl
theorem nth_2 {α : Type} {x0 x1 x2 : α} {r : List α} : nth (x0 :: x1 :: x2 :: r) 2 = some x2 := rfl
theorem nth_3 {α : Type} {x0 x1 x2 x3 : α} {r : List α} : nth (x0 :: x1 :: x2 :: x3 :: r) 3 = some x3 := rfl
def slR (x : D) (lo hi : Option Int) (M : Mem) (Q : QD) : Prop := match x with
  | .lst ds => Q (.lst (dcut ds lo hi)) M
  | .tup ds => Q (.tup (dcut ds lo hi)) M
  | .str z => Q (.str (cutS z lo hi)) M
  | _ => False
theorem oSl_eq {x : D} {lo hi : Option Int} {M : Mem} {Q : QD} : oSl x lo hi M Q = slR (res M x) lo hi M Q := rfl
theorem slR_lst {ds : List D} {lo hi : Option Int} {M : Mem} {Q : QD} : slR (.lst ds) lo hi M Q = Q (.lst (dcut ds lo hi)) M := rfl
theorem slR_tup {ds : List D} {lo hi : Option Int} {M : Mem} {Q : QD} : slR (.tup ds) lo hi M Q = Q (.tup (dcut ds lo hi)) M := rfl
theorem slR_str {z : Str} {lo hi : Option Int} {M : Mem} {Q : QD} : slR (.str z) lo hi M Q = Q (.str (cutS z lo hi)) M := rfl
def partR (d : D) (M : Mem) (Q : Option Int → Mem → Prop) : Prop := match d with
  | .int i => Q (some i) M
  | _ => False
theorem dPart_eq {t : DE} {δ : DS} {M : Mem} {Q : Option Int → Mem → Prop} {X : XD} : dPart t δ M Q X = t δ M (fun d M1 => partR d M1 Q) X := rfl
theorem partR_int {i : Int} {M : Mem} {Q : Option Int → Mem → Prop} : partR (.int i) M Q = Q (some i) M := rfl
theorem on1_cons {F : D → Mem → QD → Prop} {d : D} {M : Mem} {Q : QD} : on1 F [d] M Q = F (res M d) M Q := rfl
theorem on2_cons {F : D → D → Mem → QD → Prop} {d e : D} {M : Mem} {Q : QD} : on2 F [d, e] M Q = F (res M d) (res M e) M Q := rfl
theorem lenD_lst {xs : List D} {M : Mem} {Q : QD} : lenD (.lst xs) M Q = Q (.int xs.length) M := rfl
theorem lenD_tup {xs : List D} {M : Mem} {Q : QD} : lenD (.tup xs) M Q = Q (.int xs.length) M := rfl
theorem lenD_scr {xs : List Int} {M : Mem} {Q : QD} : lenD (.scr xs) M Q = Q (.int xs.length) M := rfl
theorem lenD_str {z : Str} {M : Mem} {Q : QD} : lenD (.str z) M Q = Q (.int z.length) M := rfl
theorem intD_int {i : Int} {M : Mem} {Q : QD} : DL.intD (.int i) M Q = Q (.int i) M := rfl
theorem intD_bl {k : Bool} {M : Mem} {Q : QD} : DL.intD (.bl k) M Q = Q (.int (cond k 1 0)) M := rfl
theorem strD_int {i : Int} {M : Mem} {Q : QD} : strD (.int i) M Q = (0 ≤ i ∧ i < 1000000000 ∧ Q (.str (toString i)) M) := rfl
theorem int2_int {g : Int → Int → Int} {i j : Int} {M : Mem} {Q : QD} : int2 g (.int i) (.int j) M Q = Q (.int (g i j)) M := rfl
theorem listM_lst {ds : List D} {M : Mem} {Q : QD} : listM (.lst ds) M Q = ∀ p, M p = none → Q (.obj p) (M.set p (.lst ds)) := rfl
theorem listF_lst {ds : List D} {M : Mem} {Q : QD} : listF (.lst ds) M Q = Q (.lst ds) M := rfl
theorem listM_tup {ds : List D} {M : Mem} {Q : QD} : listM (.tup ds) M Q = ∀ p, M p = none → Q (.obj p) (M.set p (.lst ds)) := rfl
theorem listF_tup {ds : List D} {M : Mem} {Q : QD} : listF (.tup ds) M Q = Q (.lst ds) M := rfl
theorem dictM_dic {kvs : List (Str × D)} {M : Mem} {Q : QD} : dictM (.dic kvs) M Q = ∀ p, M p = none → Q (.obj p) (M.set p (.dic kvs)) := rfl
theorem isiD_ty {d : D} {n : String} {M : Mem} {Q : QD} : isiD d (.ty n) M Q = el (isB n d) fun b => Q (.bl b) M := rfl
theorem oAppend_obj {a : Addr} {d : D} {M : Mem} {Q : QD} : oAppend (.obj a) [d] M Q = elL (M a) fun xs => xs.length < sizeLine ∧ Q .non (M.set a (.lst (xs ++ [d]))) := rfl
theorem oInsert_obj {a : Addr} {i : Int} {d : D} {M : Mem} {Q : QD} : oInsert (.obj a) [.int i, d] M Q = elL (M a) fun xs => xs.length < sizeLine ∧ 0 ≤ i ∧ i < 2 ^ 63 ∧ Q .non (M.set a (.lst (xs.take i.toNat ++ [d] ++ xs.drop i.toNat))) := rfl
theorem oPop_obj {a : Addr} {M : Mem} {Q : QD} : oPop (.obj a) [] M Q = elL (M a) fun xs => el xs[xs.length - 1]? fun d => Q d (M.set a (.lst xs.dropLast)) := rfl
theorem oPopAt_obj {a : Addr} {i : Int} {M : Mem} {Q : QD} : oPopAt (.obj a) [.int i] M Q = elL (M a) fun xs => 0 ≤ i ∧ i < 2 ^ 62 ∧ el xs[i.toNat]? fun d => Q d (M.set a (.lst (xs.eraseIdx i.toNat))) := rfl
def isLstR (d : D) : Prop := match d with
  | .lst _ => True
  | _ => False
theorem isLst_eq {d : D} {M : Mem} : isLst d M = isLstR (res M d) := rfl
theorem isLstR_lst {ds : List D} : isLstR (.lst ds) = True := rfl
theorem isStr_str {z : Str} {M : Mem} : isStr (.str z) M = True := rfl
theorem oSplit_str {a b : Str} {M : Mem} {Q : QD} : oSplit (.str a) [.str b] M Q = ((b.length == 0) = false ∧ a.length + 2 ≤ sizeLine ∧ (Txt.split a b).length ≤ sizeLine ∧ (∀ z ∈ Txt.split a b, strOk z = true) ∧ Q (.lst ((Txt.split a b).map .str)) M) := rfl
theorem oJoin_str {a : Str} {d : D} {M : Mem} {Q : QD} : oJoin (.str a) [d] M Q = ∃ ys : List Str, (res M d = .lst (ys.map .str) ∨ res M d = .tup (ys.map .str)) ∧ (ys.map (·.length)).sum + ys.length * a.length ≤ 16777216 ∧ strOk (Txt.join a ys) = true ∧ Q (.str (Txt.join a ys)) M := rfl
theorem itemsOf_lst {ds : List D} {M : Mem} {F : List D → (Mem → Prop) → Prop} : itemsOf (.lst ds) M F = F ds still := rfl
theorem itemsOf_tup {ds : List D} {M : Mem} {F : List D → (Mem → Prop) → Prop} : itemsOf (.tup ds) M F = F ds still := rfl
theorem itemsOf_str {z : Str} {M : Mem} {F : List D → (Mem → Prop) → Prop} : itemsOf (.str z) M F = F (signsD z) still := rfl
theorem itemsOf_obj {a : Addr} {M : Mem} {F : List D → (Mem → Prop) → Prop} : itemsOf (.obj a) M F = elL (M a) fun ds => F ds fun M' => M' a = some (.lst ds) := rfl
theorem rng1_int {j : Int} {F : List D → (Mem → Prop) → Prop} : rng1 [.int j] F = (-1000000 ≤ j ∧ j ≤ 1000000 ∧ F (rangeD 0 j.toNat) still) := rfl
theorem enumOf_lst {ds : List D} {M : Mem} {F : List D → (Mem → Prop) → Prop} : enumOf [.lst ds] M F = F (enumD 0 ds) still := rfl
theorem enumOf_obj {a : Addr} {M : Mem} {F : List D → (Mem → Prop) → Prop} : enumOf [.obj a] M F = elL (M a) fun xs => F (enumD 0 xs) fun M' => M' a = some (.lst xs) := rfl
theorem all_still {p : Prop} : ((∀ M, still M) ∧ p) = p := by simp
theorem two_tup {x y : D} {F : D → D → Prop} : two (.tup [x, y]) F = F x y := rfl
theorem insIs_obj {C a : Addr} {f : Str} {M : Mem} : insIs C f (.obj a) M = elI C (M a) fun fs => look fs f = none := rfl
theorem getFld_obj {C a : Addr} {f : Str} {M : Mem} {Q : QD} : getFld C f (.obj a) M Q = elI C (M a) fun fs => el (look fs f) fun d => Q d M := rfl
theorem setFld_obj {C a : Addr} {f : Str} {v : D} {M : Mem} {F : Mem → Prop} : setFld C f (.obj a) v M F = elI C (M a) fun fs => few 99 (fs.map (·.2)) ∧ F (M.set a (.ins C (dput fs f v))) := rfl
theorem putDic_obj {a : Addr} {s : Str} {v : D} {M : Mem} {F : Mem → Prop} : putDic (.obj a) (.str s) v M F = elD (M a) fun kvs => few 99 (kvs.map (·.2)) ∧ (kvs.map (·.1)).Nodup ∧ F (M.set a (.dic (dput kvs s v))) := rfl
/-! isinstance of data: a table -/
theorem isB_str_non : isB "str" (.non) = some false := (by decide +kernel : kitB "NoneType" "str" = some false)
theorem isB_str_bl (b : Bool) : isB "str" (.bl b) = some false := (by decide +kernel : kitB "bool" "str" = some false)
theorem isB_str_int (b : Int) : isB "str" (.int b) = some false := (by decide +kernel : kitB "int" "str" = some false)
theorem isB_str_str (b : Str) : isB "str" (.str b) = some true := (by decide +kernel : kitB "str" "str" = some true)
theorem isB_str_lst (b : List D) : isB "str" (.lst b) = some false := (by decide +kernel : kitB "list" "str" = some false)
theorem isB_str_tup (b : List D) : isB "str" (.tup b) = some false := (by decide +kernel : kitB "tuple" "str" = some false)
theorem isB_str_dic (b : List (Str × D)) : isB "str" (.dic b) = some false := (by decide +kernel : kitB "dict" "str" = some false)
theorem isB_int_non : isB "int" (.non) = some false := (by decide +kernel : kitB "NoneType" "int" = some false)
theorem isB_int_bl (b : Bool) : isB "int" (.bl b) = some true := (by decide +kernel : kitB "bool" "int" = some true)
theorem isB_int_int (b : Int) : isB "int" (.int b) = some true := (by decide +kernel : kitB "int" "int" = some true)
theorem isB_int_str (b : Str) : isB "int" (.str b) = some false := (by decide +kernel : kitB "str" "int" = some false)
theorem isB_int_lst (b : List D) : isB "int" (.lst b) = some false := (by decide +kernel : kitB "list" "int" = some false)
theorem isB_int_tup (b : List D) : isB "int" (.tup b) = some false := (by decide +kernel : kitB "tuple" "int" = some false)
theorem isB_int_dic (b : List (Str × D)) : isB "int" (.dic b) = some false := (by decide +kernel : kitB "dict" "int" = some false)
theorem isB_bool_non : isB "bool" (.non) = some false := (by decide +kernel : kitB "NoneType" "bool" = some false)
theorem isB_bool_bl (b : Bool) : isB "bool" (.bl b) = some true := (by decide +kernel : kitB "bool" "bool" = some true)
theorem isB_bool_int (b : Int) : isB "bool" (.int b) = some false := (by decide +kernel : kitB "int" "bool" = some false)
theorem isB_bool_str (b : Str) : isB "bool" (.str b) = some false := (by decide +kernel : kitB "str" "bool" = some false)
theorem isB_bool_lst (b : List D) : isB "bool" (.lst b) = some false := (by decide +kernel : kitB "list" "bool" = some false)
theorem isB_bool_tup (b : List D) : isB "bool" (.tup b) = some false := (by decide +kernel : kitB "tuple" "bool" = some false)
theorem isB_bool_dic (b : List (Str × D)) : isB "bool" (.dic b) = some false := (by decide +kernel : kitB "dict" "bool" = some false)
theorem isB_list_non : isB "list" (.non) = some false := (by decide +kernel : kitB "NoneType" "list" = some false)
theorem isB_list_bl (b : Bool) : isB "list" (.bl b) = some false := (by decide +kernel : kitB "bool" "list" = some false)
theorem isB_list_int (b : Int) : isB "list" (.int b) = some false := (by decide +kernel : kitB "int" "list" = some false)
theorem isB_list_str (b : Str) : isB "list" (.str b) = some false := (by decide +kernel : kitB "str" "list" = some false)
theorem isB_list_lst (b : List D) : isB "list" (.lst b) = some true := (by decide +kernel : kitB "list" "list" = some true)
theorem isB_list_tup (b : List D) : isB "list" (.tup b) = some false := (by decide +kernel : kitB "tuple" "list" = some false)
theorem isB_list_dic (b : List (Str × D)) : isB "list" (.dic b) = some false := (by decide +kernel : kitB "dict" "list" = some false)
theorem isB_tuple_non : isB "tuple" (.non) = some false := (by decide +kernel : kitB "NoneType" "tuple" = some false)
theorem isB_tuple_bl (b : Bool) : isB "tuple" (.bl b) = some false := (by decide +kernel : kitB "bool" "tuple" = some false)
theorem isB_tuple_int (b : Int) : isB "tuple" (.int b) = some false := (by decide +kernel : kitB "int" "tuple" = some false)
theorem isB_tuple_str (b : Str) : isB "tuple" (.str b) = some false := (by decide +kernel : kitB "str" "tuple" = some false)
theorem isB_tuple_lst (b : List D) : isB "tuple" (.lst b) = some false := (by decide +kernel : kitB "list" "tuple" = some false)
theorem isB_tuple_tup (b : List D) : isB "tuple" (.tup b) = some true := (by decide +kernel : kitB "tuple" "tuple" = some true)
theorem isB_tuple_dic (b : List (Str × D)) : isB "tuple" (.dic b) = some false := (by decide +kernel : kitB "dict" "tuple" = some false)
theorem el_some {α : Type} (d : α) (F : α → Prop) : el (some d) F = F d := rfl
theorem elL_lst (ds : List D) (F : List D → Prop) : elL (some (.lst ds)) F = F ds := rfl
theorem elD_dic (ds : List (Str × D)) (F : List (Str × D) → Prop) : elD (some (.dic ds)) F = F ds := rfl
theorem elI_ins (C : Addr) (ds : List (Str × D)) (F : List (Str × D) → Prop) : elI C (some (.ins C ds)) F = F ds := propext ⟨fun h => h.2, fun h => ⟨rfl, h⟩⟩
theorem frz_set_lst {p : Addr} {M : Mem} {ds : List D} {Q : QD} : frz (.obj p) (M.set p (.lst ds)) Q = Q (.lst ds) ((M.set p (.lst ds)).del p) := by
  rw [frz_obj]
  have : res (M.set p (.lst ds)) (.obj p) = .lst ds := by
    show resO p _ = _
    rw [Mem.set_same]; rfl
  rw [this]
  rfl
theorem frz_set_dic {p : Addr} {M : Mem} {ds : List (Str × D)} {Q : QD} : frz (.obj p) (M.set p (.dic ds)) Q = Q (.dic ds) ((M.set p (.dic ds)).del p) := by
  rw [frz_obj]
  have : res (M.set p (.dic ds)) (.obj p) = .dic ds := by
    show resO p _ = _
    rw [Mem.set_same]; rfl
  rw [this]
  rfl
/-- a comprehension whose parts only read, frozen -/
theorem lc_pure {i : Nat} {tt : DT} {te : DE} {δ : DS} {M : Mem} {P : Mem → Prop} {Q : QD} {items : List D} (p : D → Bool) (f : D → D)
    (h1 : ∀ x, x ∈ items → ∀ M', M.Sub M' → ∀ Qb : Bool → Mem → Prop, Qb (p x) M' → tt (δ.set i (some x)) M' Qb fun _ _ _ => False)
    (h2 : ∀ x, x ∈ items → p x = true → ∀ M', M.Sub M' → ∀ Qd : QD, Qd (f x) M' → te (δ.set i (some x)) M' Qd fun _ _ _ => False)
    (h : Q (.lst ((items.filter p).map f)) M) (hP : ∀ M', M.Sub M' → P M' := by exact fun _ _ => trivial) : ∀ D0, M D0 = none → lcL D0 i tt te δ P (fun M2 => frz (.obj D0) M2 Q) items [] (M.set D0 (.lst [])) := fun D0 hD => by
  refine lcL_pure hD hP p f h1 h2 ?_
  rw [frz_set_lst, Mem.del_set hD, List.nil_append]
  exact h
/-- without a test -/
theorem lc_map {i : Nat} {te : DE} {δ : DS} {M : Mem} {P : Mem → Prop} {Q : QD} {items : List D} (f : D → D)
    (h2 : ∀ x, x ∈ items → ∀ M', M.Sub M' → ∀ Qd : QD, Qd (f x) M' → te (δ.set i (some x)) M' Qd fun _ _ _ => False)
    (h : Q (.lst (items.map f)) M) (hP : ∀ M', M.Sub M' → P M' := by exact fun _ _ => trivial) : ∀ D0, M D0 = none → lcL D0 i dYes te δ P (fun M2 => frz (.obj D0) M2 Q) items [] (M.set D0 (.lst [])) := by
  refine lc_pure (fun _ => true) f (fun x _ M' _ Qb q => q) (fun x hx _ => h2 x hx) ?_ hP
  rw [List.filter_eq_self.mpr (fun _ _ => rfl)]
  exact h
/-- a comprehension that makes a list which may change -/
theorem lcm_pure {i : Nat} {tt : DT} {te : DE} {δ : DS} {M : Mem} {P : Mem → Prop} {Q : QD} {items : List D} (p : D → Bool) (f : D → D)
    (h1 : ∀ x, x ∈ items → ∀ M', M.Sub M' → ∀ Qb : Bool → Mem → Prop, Qb (p x) M' → tt (δ.set i (some x)) M' Qb fun _ _ _ => False)
    (h2 : ∀ x, x ∈ items → p x = true → ∀ M', M.Sub M' → ∀ Qd : QD, Qd (f x) M' → te (δ.set i (some x)) M' Qd fun _ _ _ => False)
    (h : ∀ D0, M D0 = none → Q (.obj D0) (M.set D0 (.lst ((items.filter p).map f)))) (hP : ∀ M', M.Sub M' → P M' := by exact fun _ _ => trivial) : ∀ D0, M D0 = none → lcL D0 i tt te δ P (fun M2 => Q (.obj D0) M2) items [] (M.set D0 (.lst [])) := fun D0 hD => by
  refine lcL_pure hD hP p f h1 h2 ?_
  rw [List.nil_append]
  exact h D0 hD
theorem lcm_map {i : Nat} {te : DE} {δ : DS} {M : Mem} {P : Mem → Prop} {Q : QD} {items : List D} (f : D → D)
    (h2 : ∀ x, x ∈ items → ∀ M', M.Sub M' → ∀ Qd : QD, Qd (f x) M' → te (δ.set i (some x)) M' Qd fun _ _ _ => False)
    (h : ∀ D0, M D0 = none → Q (.obj D0) (M.set D0 (.lst (items.map f)))) (hP : ∀ M', M.Sub M' → P M' := by exact fun _ _ => trivial) : ∀ D0, M D0 = none → lcL D0 i dYes te δ P (fun M2 => Q (.obj D0) M2) items [] (M.set D0 (.lst [])) := by
  refine lcm_pure (fun _ => true) f (fun x _ M' _ Qb q => q) (fun x hx _ => h2 x hx) (fun D0 hD => ?_) hP
  rw [List.filter_eq_self.mpr (fun _ _ => rfl)]
  exact h D0 hD
theorem eqv_nil (xs : List D) : D.eqv (.lst xs) (.lst []) = xs.isEmpty := by
  cases xs <;> rfl
theorem flat_map {α : Type} (n : Nat) (g : α → D) (h : ∀ a, flatN n (g a) = true) : ∀ xs : List α, flatL n (xs.map g) = true
  | [] => rfl
  | x :: xs => by
    rw [List.map_cons]
    unfold flatL
    rw [h x, flat_map n g h xs]
    rfl
theorem flatN_lst (n : Nat) (xs : List D) : flatN (n + 1) (.lst xs) = flatL n xs := by simp [flatN]
theorem flatN_tup (n : Nat) (xs : List D) : flatN (n + 1) (.tup xs) = flatL n xs := by simp [flatN]
theorem flatN_str (n : Nat) (z : Str) : flatN n (.str z) = true := by cases n <;> simp [flatN]
theorem flatN_int (n : Nat) (z : Int) : flatN n (.int z) = true := by cases n <;> simp [flatN]
theorem flatN_bl (n : Nat) (z : Bool) : flatN n (.bl z) = true := by cases n <;> simp [flatN]
theorem flatN_non (n : Nat) : flatN n .non = true := by cases n <;> simp [flatN]
theorem flatL_nil (n : Nat) : flatL n [] = true := rfl
theorem flatL_cons (n : Nat) (x : D) (xs : List D) : flatL n (x :: xs) = (flatN n x && flatL n xs) := by simp [flatL]
theorem cond_of {b : Bool} {A B : Prop} (h1 : b = true → A) (h2 : b = false → B) : cond b A B := by
  cases b with
  | true => exact h1 rfl
  | false => exact h2 rfl
theorem cond_dec {c : Prop} [Decidable c] {A B : Prop} (h1 : c → A) (h2 : ¬ c → B) : cond (decide c) A B := by
  by_cases h : c
  · rw [decide_eq_true h]; exact h1 h
  · rw [decide_eq_false h]; exact h2 h
theorem retD_of {Q : QD} {d : D} {M : Mem} (h : Q d M) : retD Q d M := ⟨M, Mem.Sub.refl M, h⟩
theorem retX_of {X : Addr → Mem → Prop} {c : Addr} {δ : DS} {M : Mem} (h : X c M) : retX X c δ M := ⟨M, Mem.Sub.refl M, h⟩
theorem res_obj {M : Mem} {a : Addr} {ds : List D} (h : M a = some (.lst ds)) : res M (.obj a) = .lst ds := by
  show resO a (M a) = _
  rw [h]; rfl
theorem res_objD {M : Mem} {a : Addr} {ds : List (Str × D)} (h : M a = some (.dic ds)) : res M (.obj a) = .dic ds := by
  show resO a (M a) = _
  rw [h]; rfl
theorem cpow_109 : CPow 10 9 = True := eq_true ⟨by decide, by decide, by decide⟩
theorem pow_109 : (10 : Int) ^ (Int.toNat 9) = 1000000000 := by decide
theorem small_line {n : Nat} (h : n ≤ 10000000) : n ≤ sizeLine := by rw [sizeLine_eq]; omega
theorem small_line' {n : Nat} (h : n < 10000000) : n < sizeLine := by rw [sizeLine_eq]; omega
theorem cdiv {a b : Int} (h : 0 < b) (h2 : b < 1073741824) : CDiv a b := ⟨h, h2⟩
/-- a comprehension in a comprehension: the outer one's names -/
theorem lookup_relabel {env : Env} {x : Str} : ∀ (names : List (Str × NameKind)), (names.map fun (n, k) => if (k == NameKind.free && env.scope.kind == .function && env.kindOf n == some .cell) then (n, NameKind.cell) else (n, k)).lookup x =
    (names.lookup x).map fun k => if (k == NameKind.free && env.scope.kind == .function && env.kindOf x == some .cell) then NameKind.cell else k
  | [] => rfl
  | (n, k) :: names => by
    rw [List.map_cons]
    by_cases h : x = n
    · subst h
      simp only [List.lookup_cons, beq_self_eq_true]
      split <;> simp_all
    · have hb : (x == n) = false := beq_eq_false_iff_ne.mpr h
      have ih := lookup_relabel (env := env) (x := x) names
      simp only
      split
      · rw [List.lookup_cons, hb]
        simp only
        rw [ih, List.lookup_cons, hb]
      · rw [List.lookup_cons, hb]
        simp only
        rw [ih, List.lookup_cons, hb]
theorem blkC_relabel {N : List Str} {sc scope : Scope} {own : List (Str × Nat)} {env : Env} (h : blkC N sc scope own = true) : blkC N (relabel sc env) scope own = true := by
  unfold blkC at h ⊢
  simp only [Bool.and_eq_true, List.all_eq_true] at h ⊢
  refine ⟨h.1, fun y hy => ?_⟩
  have q := h.2 y hy
  cases hk : y.2 with
  | free =>
    rw [hk] at q
    simp only at q ⊢
    unfold relabel
    simp only
    rw [lookup_relabel]
    cases hl : sc.names.lookup y.1 with
    | none => rw [hl] at q; cases q
    | some k =>
      rw [hl] at q
      have key : ∀ c : Bool, (match some (if c = true then NameKind.cell else k) with | some .cell => true | some .free => true | _ => false) = true := by
        intro c
        cases k <;> cases c <;> first | rfl | exact q
      exact key _
  | _ =>
    rw [hk] at q
    try exact q
theorem blkOk_nest {N : List Str} {sc scope : Scope} {own : List (Str × Nat)} {cl : List (Str × Addr)} {C : Addr} {env : Env} (h : blkC N sc scope own = true) : BlkOk N (compEnvC sc cl C env).scope scope own := blkOk_by (blkC_relabel h)
end DL

/-! The data layer: sorted of texts -/
namespace DL
open PySem PySem.Spec PyProof.Rows L2

def leS (a b : Str) : Bool := !ltCps b.cps.toList a.cps.toList
theorem leS_iff {a b : Str} : leS a b = true ↔ a.cps.toList ≤ b.cps.toList := by
  unfold leS
  rw [ltCps_eq]
  simp [List.not_lt]
theorem leS_trans {a b c : Str} (h : leS a b = true) (k : leS b c = true) : leS a c = true := by
  rw [leS_iff] at *
  exact List.le_trans h k
theorem leS_anti {a b : Str} (h : leS a b = true) (k : leS b a = true) : a = b := by
  rw [leS_iff] at *
  have := List.le_antisymm h k
  cases a; cases b
  simp only [Str.mk.injEq]
  exact Array.toList_inj.mp this
theorem leS_total (a b : Str) : (leS a b || leS b a) = true := by
  rw [Bool.or_eq_true, leS_iff, leS_iff]
  exact List.le_total a.cps.toList b.cps.toList
def sortS (xs : List Str) : List Str := xs.mergeSort leS
theorem rising_pw : ∀ {x : Str} {r : List Str}, risingS x r = true → (x :: r).Pairwise (fun a b => leS a b = true)
  | x, [], _ => List.pairwise_singleton _ _
  | x, y :: r, h => by
    have h : (!ltCps y.cps.toList x.cps.toList && risingS y r) = true := h
    rw [Bool.and_eq_true] at h
    have ih := rising_pw h.2
    refine List.pairwise_cons.mpr ⟨fun z hz => ?_, ih⟩
    rcases List.mem_cons.mp hz with rfl | hz
    · exact h.1
    · exact leS_trans h.1 ((List.pairwise_cons.mp ih).1 z hz)
theorem sortedS_pw {l : List Str} (h : sortedS l = true) : l.Pairwise (fun a b => leS a b = true) := by
  cases l with
  | nil => exact List.Pairwise.nil
  | cons x r => exact rising_pw h
theorem pw_eq : ∀ {a b : List Str}, a.Perm b → a.Pairwise (fun x y => leS x y = true) → b.Pairwise (fun x y => leS x y = true) → a = b
  | [], b, p, _, _ => (List.nil_perm.mp p).symm
  | x :: a, [], p, _, _ => by have := p.length_eq; simp at this
  | x :: a, y :: b, p, ha, hb => by
    have e : x = y := by
      have h1 : x ∈ y :: b := p.mem_iff.mp List.mem_cons_self
      have h2 : y ∈ x :: a := p.mem_iff.mpr List.mem_cons_self
      rcases List.mem_cons.mp h1 with e | h1
      · exact e
      rcases List.mem_cons.mp h2 with e | h2
      · exact e.symm
      exact leS_anti ((List.pairwise_cons.mp ha).1 y h2) ((List.pairwise_cons.mp hb).1 x h1)
    subst e
    rw [pw_eq (List.Perm.cons_inv p) (List.pairwise_cons.mp ha).2 (List.pairwise_cons.mp hb).2]
theorem sortS_perm (xs : List Str) : (sortS xs).Perm xs := List.mergeSort_perm xs leS
theorem sortS_pw (xs : List Str) : (sortS xs).Pairwise (fun a b => leS a b = true) :=
  List.pairwise_mergeSort (le := leS) (fun a b c h k => leS_trans h k) (fun a b => leS_total a b) xs
theorem sortS_of {xs ys : List Str} (p : ys.Perm xs) (h : sortedS ys = true) : ys = sortS xs := pw_eq (p.trans (sortS_perm xs).symm) (sortedS_pw h) (sortS_pw xs)
theorem sortS_eq {xs ys : List Str} (p : xs.Perm ys) : sortS xs = sortS ys := pw_eq ((sortS_perm xs).trans (p.trans (sortS_perm ys).symm)) (sortS_pw xs) (sortS_pw ys)
def rSortedA (K : PySem.W.Frag) : List V → Hp → VK → Prop := fun vs H Q => ∃ (a : Addr) (xs : List Str), vs = [V.ref a] ∧ SqL K H a (xs.map V.str) ∧
  ∀ (ys : List Str) (p : Addr), ys.Perm xs → sortedS ys = true → H p = none → Q (.ref p) (upd H p (.lst (ys.map V.str)))
section
variable {X : Cx} {K : PySem.W.Frag}
theorem cr_sortedD : CallR X (.builtin "sorted") (rSortedA X.K) := by
  intro pins s σ H vs us Q I r h
  obtain ⟨a, xs, rfl, hs, q⟩ := h
  obtain ⟨its, rv, hl, hz⟩ := I.list hs
  rw [Vals.ref1 r]
  have hlen0 := rv.length
  rw [List.length_map] at hlen0
  rw [List.length_map] at hz
  refine PyProof.Rows.sorted_strsAny hl.isList rv.strs (by rw [← hlen0]; exact hz) fun out ys h1 h2 h3 => ?_
  obtain ⟨ep, he'⟩ := PyProof.Rows.sortedAll_at s.heap its out
  have hlen : (ys.map V.str).length ≤ sizeLine := by rw [List.length_map, h2.length_eq]; exact hz
  exact ⟨.ref _, upd H (s.heap.objs.size + 1) (.lst (ys.map V.str)), I.laid (t' := s.toks) (fun _ _ => PyProof.Rows.sortedAll_old) (Nat.le_succ _) ⟨hlen, out.toList, ep, vals_of_strs h1, he'⟩, rfl, q ys _ h2 h3 (I.hok.fresh (Nat.le_succ _))⟩
def sortD (d : D) (M : Mem) (Q : QD) : Prop := ∃ ns : List Str, d = .lst (ns.map .str) ∧ Q (.lst ((sortS ns).map .str)) M
theorem reps_ok {G : Hp} : ∀ {ns : List Str} {vs : List V}, RepL K G vs (ns.map D.str) → ∀ z ∈ ns, strOk z = true
  | [], _, _ => fun z hz => by cases hz
  | x :: r, _, .cons (.str _ h) t => fun z hz => by
    rcases List.mem_cons.mp hz with rfl | hz
    · exact h
    · exact reps_ok t z hz
theorem l_sortedD : LCall K (rSortedA K) (on1 sortD) := by
  refine LCall.imp (l_on1 (r := fun x H Q => ∃ (a : Addr) (xs : List Str), x = .ref a ∧ SqL K H a (xs.map V.str) ∧ ∀ (ys : List Str) (p : Addr), ys.Perm xs → sortedS ys = true → H p = none → Q (.ref p) (upd H p (.lst (ys.map V.str)))) fun v H G M d d' Q Q' ok rv e h hq => ?_) fun vs H Q ⟨v, e, a, ns, f, h⟩ => ⟨a, ns, by rw [e, f], h⟩
  obtain ⟨ns, f, h⟩ := h
  subst f
  obtain ⟨a, vs, f, h1, q, z⟩ := rv.lstOf ok e
  have hok := reps_ok q
  have := reps_strs q
  subst this
  refine ⟨a, ns, f, SqL.of h1, fun ys p hp hs hn => ?_⟩
  have gp := ok.gnone hn
  have ey := sortS_of hp hs
  refine hq _ _ _ _ _ h (ok.frozen hn) (same_upd gp) (.lst upd_same ?_ ?_)
  · rw [← ey]
    exact .strs fun z hz => hok z (hp.mem_iff.mp hz)
  · rw [List.length_map, ← ey, hp.length_eq, ← List.length_map (f := D.str)]
    exact z
end
theorem sortD_lst {ns : List Str} {M : Mem} {Q : QD} (h : Q (.lst ((sortS ns).map .str)) M) : sortD (.lst (ns.map .str)) M Q := ⟨ns, rfl, h⟩
end DL

/-! The data layer: try with a named exception, isinstance of it -/
namespace DL
open PySem PySem.Spec PyProof.Rows L2

/-- behind the suite the name is gone -/
abbrev goneE (i : Nat) (E : DEnds) : DEnds := { nx := fun δ M => E.nx (δ.set i none) M, rt := E.rt, bk := fun δ M => E.bk (δ.set i none) M, ct := fun δ M => E.ct (δ.set i none) M, xc := fun _ _ _ => False }
def dTryAs (K : PySem.W.Frag) (c : Value) (i : Nat) (t : DSt) (u : Addr → Addr → DSt) : DSt := fun E δ M =>
  t { E with xc := fun cls δ' M' => PySem.W.exmOne K (.ref cls) c = some true ∧ ∀ a, M' a = none → u a cls (goneE i E) (δ'.set i (some (.obj a))) M' } δ M
section
variable {X : Cx} {W : WX} {x n : Str} {i : Nat} {np pos pos' : Pos}
theorem pds_tryAs {c : Value} {body suite : List Stmt} {b₀ : Stmt} {t : DSt} {u : Addr → Addr → DSt} (hs : X.stack = X.env :: X.outer) (hf : X.env.frame = some X.env.locals) (hN : X.N.Nodup) (hi : X.N[i]? = some n) (hln : X.env.kindOf n = some .local) (hc : Names X x c) (tk : L2N.Takes X W)
    (hb : ∀ (W' : WX) (pn : List (Addr × Obj)) (xe : Value → Shared → Prop), L2N.Takes (X.tr pn xe) W' → PassesOwn (model X.prog X.w) X.A X.env xe → PDSs (X.tr pn xe) W' body t)
    (hsu : ∀ (a ec : Addr) (oe : Obj) (pn : List (Addr × Obj)), L2N.Zn (.ref ec) none oe → (∃ vs, oe.data = .fields vs) → PDSs (X.suite a ((a, oe) :: pn)) W0 (b₀ :: suite) (u a ec)) :
    PDS X W (.Try body [.ExceptHandler (some (.Name x np)) (some n) (b₀ :: suite) pos'] [] [] pos) (dTryAs X.K c i t u) :=
  PSw (L2N.ps_try_as (tb := fun W' => upS X.K W' t) (ts := fun a cls d D σ H => ∃ ec, cls = .ref ec ∧ d = none ∧ upS X.K W0 (u a ec) D σ H) (Wout := W) hs hf hN hi hln hc tk hb
    (fun a oe cls d pn hz hf => ⟨fun pins s σ H D I ⟨ec, e1, e2, h⟩ => by
      subst e1 e2
      exact (hsu a ec oe pn hz hf).run pins s σ H D I h⟩)) fun D σ H ⟨G, M, δ, E, ok, sl, h, eo⟩ =>
    ⟨G, M, δ, _, ok, sl, h, ⟨eo.nx, eo.rt, eo.bk, eo.ct, fun cls δ' M' σ' H' G' ⟨hx, hu⟩ ok' e' sl' => ⟨true, hx, fun _ a ha => ⟨cls, rfl, rfl, G', M', _, _, ok', Slots.set (.yes (.obj a)) i sl', hu a (ok'.mnone ha),
      ⟨fun δ2 M2 σ2 H2 G2 h2 ok2 e2 sl2 => eo.nx _ _ _ _ _ h2 ok2 (e'.trans e2) (Slots.set .no i sl2), fun d M2 v H2 G2 h2 ok2 e2 r2 => eo.rt _ _ _ _ _ h2 ok2 (e'.trans e2) r2,
       fun δ2 M2 σ2 H2 G2 h2 ok2 e2 sl2 => eo.bk _ _ _ _ _ h2 ok2 (e'.trans e2) (Slots.set .no i sl2), fun δ2 M2 σ2 H2 G2 h2 ok2 e2 sl2 => eo.ct _ _ _ _ _ h2 ok2 (e'.trans e2) (Slots.set .no i sl2), WOk.bot⟩⟩, fun z => nomatch z⟩⟩⟩
end

/-! ### isinstance of the exception that the suite holds -/
def kitD (K : PySem.W.Frag) (ec : Addr) : D → Option Bool
  | .obj C => PySem.W.kitOne K (.ref ec) (.ref C)
  | .ty n => PySem.W.kitOne K (.ref ec) (.type n)
  | _ => none
def kitAnyD (K : PySem.W.Frag) (ec : Addr) : List D → Option Bool
  | [] => some false
  | c :: r => match kitD K ec c with
    | some true => some true
    | some false => kitAnyD K ec r
    | none => none
def kitV (K : PySem.W.Frag) (ec : Addr) : D → Option Bool
  | .tup cs => kitAnyD K ec cs
  | d => kitD K ec d
def isED (K : PySem.W.Frag) (a ec : Addr) (ds : List D) (M : Mem) (Q : QD) : Prop := match ds with
  | [.obj a', c] => a' = a ∧ ExcC K ec ∧ el (kitV K ec c) fun b => Q (.bl b) M
  | _ => False
def rIsEA (K : PySem.W.Frag) (ec a : Addr) : List V → Hp → VK → Prop := fun xs H Q => ExcC K ec ∧ (rIsE K ec a xs H Q ∨ ∃ (tp : Addr) (cs : List V) (b : Bool), xs = [.ref a, .ref tp] ∧ SqT K H tp cs ∧ (∀ us, Vals cs us → PySem.W.kitAny K (.ref ec) us = some b) ∧ Q (.bl b) H)
theorem call_isEA {X : Cx} {a ec : Addr} {oe : Obj} {pn : List (Addr × Obj)} (hz : L2.Zc (.ref ec) none oe) (hf : ∃ vs, oe.data = .fields vs) : CallR (X.suite a ((a, oe) :: pn)) (.builtin "isinstance") (rIsEA X.K ec a) := by
  intro pins s σ H xs us Q I r ⟨C, h⟩
  rcases h with h | ⟨tp, cs, b, rfl, hT, e, q⟩
  · exact call_isE C hz hf pins s σ H xs us Q I r h
  · cases r with
    | cons rx rr =>
      cases rr with
      | cons rt rr =>
        cases rr
        cases rx
        cases rt
        obtain ⟨hget, _⟩ := I.pin (a, oe) (List.mem_append.mpr (.inl List.mem_cons_self))
        obtain ⟨vs, hv⟩ := hf
        have J : PySem.W.InstAt s.heap a oe ec none := by
          obtain ⟨oc, od, oda, osl⟩ := oe
          obtain ⟨h1, h2⟩ := hz
          dsimp only at h1 h2 hv
          subst h1 h2 hv
          exact ⟨hget, rfl, rfl, trivial⟩
        obtain ⟨its, rv, ⟨o, h1, h2, n, h3⟩, _⟩ := I.tuple hT
        obtain ⟨oc, od, dt, sl⟩ := o
        simp only at h2 h3
        subst h2 h3
        exact PySem.W.kia_tup (PySem.W.handS_kitx_exc C.hg C.hk C.hs C.hd C.ha C.hn C.ht C.hm) I.kIn J h1 (e its rv) (fun z => nomatch z) fun tk => ⟨.bl b, H, I.kept (t' := tk) fun _ _ z => z, rfl, q⟩
section
variable {K : PySem.W.Frag}
theorem kitD_val {G : Hp} {ec : Addr} {v : V} {d : D} {b : Bool} (r : Rep K G v d) (h : kitD K ec d = some b) : ∃ cv, (∀ u, RelV v u → u = cv) ∧ PySem.W.kitOne K (.ref ec) cv = some b := by
  cases r with
  | obj a => exact ⟨_, fun u e => e, h⟩
  | ty n => exact ⟨_, fun u e => e, h⟩
  | _ => cases h
theorem kitAnyD_vals {G : Hp} {ec : Addr} : ∀ {vs : List V} {ds : List D} {b : Bool}, RepL K G vs ds → kitAnyD K ec ds = some b → ∀ us, Vals vs us → PySem.W.kitAny K (.ref ec) us = some b
  | _, _, _, .nil, h, _, .nil => h
  | _, _, b, .cons r t, h, _, .cons ru rt => by
    unfold kitAnyD at h
    split at h
    · rename_i e
      obtain ⟨cv, h1, h2⟩ := kitD_val r e
      cases h1 _ ru
      unfold PySem.W.kitAny
      rw [h2]
      exact h
    · rename_i e
      obtain ⟨cv, h1, h2⟩ := kitD_val r e
      cases h1 _ ru
      unfold PySem.W.kitAny
      rw [h2]
      exact kitAnyD_vals t h _ rt
    · cases h
theorem l_isE {a ec : Addr} : LCall K (rIsEA K ec a) (isED K a ec) := by
  intro vs H G M ds Q Q' ok rl h hq
  unfold isED at h
  split at h
  · rename_i a' c
    obtain ⟨rfl, C, h1⟩ := h
    obtain ⟨b, eb, h2⟩ := el_of h1
    cases rl with
    | cons r1 r2 =>
      cases r2 with
      | cons r2 r3 =>
        cases r3
        cases r1
        refine ⟨C, ?_⟩
        unfold kitV at eb
        split at eb
        · cases r2 with
          | tup hg q z => exact .inr ⟨_, _, b, rfl, SqT.of (ok.sub _ _ hg), kitAnyD_vals q eb, hq _ _ _ _ _ h2 ok (Same.refl _) (.bl b)⟩
        · obtain ⟨cv, k1, k2⟩ := kitD_val r2 eb
          exact .inl ⟨_, cv, b, rfl, k1, k2, hq _ _ _ _ _ h2 ok (Same.refl _) (.bl b)⟩
  · exact h.elim
end
theorem isED_obj {K : PySem.W.Frag} {a ec a' : Addr} {c : D} {M : Mem} {Q : QD} : isED K a ec [.obj a', c] M Q = (a' = a ∧ ExcC K ec ∧ el (kitV K ec c) fun b => Q (.bl b) M) := rfl
theorem kitV_obj {K : PySem.W.Frag} {ec C : Addr} : kitV K ec (.obj C) = PySem.W.kitOne K (.ref ec) (.ref C) := rfl
theorem kitV_ty {K : PySem.W.Frag} {ec : Addr} {n : String} : kitV K ec (.ty n) = PySem.W.kitOne K (.ref ec) (.type n) := rfl
theorem kitAnyD_cons {K : PySem.W.Frag} {ec C : Addr} {cs : List D} {b r : Bool} (h : PySem.W.kitOne K (.ref ec) (.ref C) = some b) (hr : b = false → kitAnyD K ec cs = some r) (hb : b = true → r = true) : kitAnyD K ec (.obj C :: cs) = some r := by
  unfold kitAnyD
  rw [show kitD K ec (.obj C) = some b from h]
  cases b with
  | true => show some true = some r; rw [hb rfl]
  | false => exact hr rfl
end DL

/-! The data layer: == and != where a dict may stand among the items -/
namespace PySem.SeqAt
open AutoSeq1 (wpAny_loadPart')
open MeetsSeq
theorem dl_dict_ne_tuple (l b : Addr) (es : Array DictEntry) (ep : Nat) (items2 : Array Value) (n2 : Nat) (dd2 : Option Addr) (sl2 : Array (Option Value)) :
    Meets (Builtin.«dict.__ne__» ⟨[.ref l, .ref b], []⟩) (fun _ R s => s.heap.get? l = some { cls := .type "dict", dict := none, data := .dict es ep, slots := #[] } ∧ s.heap.get? b = some { cls := .type "tuple", dict := dd2, data := .seq items2 n2, slots := sl2 } ∧ R (.ok (.ret .notImplemented)) s) :=
  .of_wp fun prog w A R s h => by obtain ⟨hp, g, d, tk, os⟩ := s; obtain ⟨hl, hb, h⟩ := h; have f1 := F.sub_tuple_dict; wp_walk using wpAny_loadPart' hl, wpAny_loadPart' hb; exact ⟨_, rfl, h⟩
theorem dl_tuple_ne_dict (l b : Addr) (items : Array Value) (n : Nat) (es : Array DictEntry) (ep : Nat) (dd : Option Addr) (sl : Array (Option Value)) :
    Meets (Builtin.«tuple.__ne__» ⟨[.ref l, .ref b], []⟩) (fun _ R s => s.heap.get? l = some { cls := .type "tuple", dict := dd, data := .seq items n, slots := sl } ∧ s.heap.get? b = some { cls := .type "dict", dict := none, data := .dict es ep, slots := #[] } ∧ R (.ok (.ret .notImplemented)) s) :=
  .of_wp fun prog w A R s h => by obtain ⟨hp, g, d, tk, os⟩ := s; obtain ⟨hl, hb, h⟩ := h; have f1 := F.sub_dict_tuple; wp_walk using wpAny_loadPart' hl, wpAny_loadPart' hb; exact ⟨_, rfl, h⟩
theorem dl_rcNe_dict_tuple {A : Around} {s : Shared} {l b : Addr} {o : Obj} {es : Array DictEntry} {ep : Nat} {items2 : Array Value} (hl : s.heap.get? l = some o) (hx : o.ExactDict) (hd : o.data = .dict es ep) (hb : s.heap.IsTuple b items2) (hu : A.units < cLine) : RcNeAt A s (.ref l) (.ref b) true := fun prog w E Q h => by
  obtain ⟨cls, dd, data, sl⟩ := o
  obtain ⟨h1, h2, h3⟩ := hx
  obtain ⟨⟨cls2, dd2, data2, sl2⟩, ho2, hc2, n2, hd2⟩ := id hb
  simp only at h1 h2 h3 hd hc2 hd2
  subst h1 h2 h3 hd hc2 hd2
  have hne : l ≠ b := fun e => by
    subst e
    rw [hl] at ho2
    have := congrArg Obj.data (Option.some.inj ho2)
    simp at this
  exact (rc_ne_decline_or (k := false) ⟨_, hl, rfl⟩ ⟨_, ho2, rfl⟩ (by decide) F.sub_tuple_dict F.slot_dict_ne F.slot_tuple_ne_refl
    (fun _ hq => call_meets F.slot_dict_ne ⟨_, hl, rfl⟩ F.entry_dict_ne (F.args_dict_ne_2 _ _) (dl_dict_ne_tuple l b es ep items2 n2 dd2 sl2) ⟨hl, ho2, hq⟩)
    (fun _ hq => call_meets F.slot_tuple_ne_refl ⟨_, ho2, rfl⟩ F.entry_tuple_ne (F.args_tuple_ne_2 _ _) (dl_tuple_ne_dict b l items2 n2 es ep dd2 sl2) ⟨ho2, hl, hq⟩)
    (fun _ hq => wpAny_isSame_ref_other hne hl ho2 (by simp) hq) (.inr hu) h)
end PySem.SeqAt
namespace DL
open PySem PySem.Spec PyProof.Rows L2

/-- the same item, or equal data -/
def SameV (K : PySem.W.Frag) (H : Hp) (v w : V) : Prop := (∃ a, v = .ref a ∧ w = .ref a) ∨ ∃ d, Dp K H v d ∧ Dp K H w d ∧ d.canLay0 = true ∧ d.depth ≤ 60 ∧ PyData.eqv d d = true
/-- two lists item by item the same -/
def rSameL (K : PySem.W.Frag) (neg : Bool) : R2 := fun x y H Q => ∃ (a b : Addr) (vs ws : List V), x = .ref a ∧ y = .ref b ∧ SqL K H a vs ∧ SqL K H b ws ∧ Paired (SameV K H) vs ws ∧ Q (.bl (!neg)) H
def rDictTup (K : PySem.W.Frag) : R2 := fun x y H Q => ∃ (a b : Addr) (ks : List (Key × V)) (ws : List V), x = .ref a ∧ y = .ref b ∧ H a = some (.dK ks) ∧ SqT K H b ws ∧ Q (.bl true) H
section
variable {X : Cx} {K : PySem.W.Frag}
theorem same_items {pins : List (Addr × Obj)} {σ : L2.St} {H : Hp} {s : Shared} (I : Inv X pins σ H s) (hu : X.A.units + 64 < cLine) : ∀ {vs ws : List V} {its its2 : List Value}, Vals vs its → Vals ws its2 → Paired (SameV X.K H) vs ws →
    its.length = its2.length ∧ ∀ j (h1 : j < its.length) (h2 : j < its2.length), SeqAt.EqAt X.A.in1 s its[j] its2[j] true
  | _, _, _, _, .nil, .nil, .nil => ⟨rfl, fun j h => absurd h (Nat.not_lt_zero _)⟩
  | _, _, _, _, .cons (b := u1) r1 t1, .cons (b := u2) r2 t2, .cons q t => by
    obtain ⟨e, ih⟩ := same_items I hu t1 t2 t
    refine ⟨by rw [List.length_cons, List.length_cons, e], fun j h1 h2 => ?_⟩
    cases j with
    | succ j => exact ih j (Nat.lt_of_succ_lt_succ h1) (Nat.lt_of_succ_lt_succ h2)
    | zero =>
      show SeqAt.EqAt X.A.in1 s u1 u2 true
      rcases q with ⟨a, e1, e2⟩ | ⟨d, d1, d2, c, dp, ee⟩
      · subst e1 e2
        obtain rfl : u1 = Value.ref a := r1
        obtain rfl : u2 = Value.ref a := r2
        exact SeqAt.EqAt.same _
      · obtain ⟨as, q1⟩ := Dp.reads I d _ _ d1 r1
        obtain ⟨bs, q2⟩ := Dp.reads I d _ _ d2 r2
        have := SeqAt.eqAt_reads d d X.A.in1 s _ _ _ _ q1 q2 c c (by
          have : min d.depth d.depth ≤ d.depth := Nat.min_le_left _ _
          show X.A.units + 1 + min d.depth d.depth < cLine
          omega)
        rw [ee] at this
        exact this
theorem op_eqL (hu : X.A.units + 64 < cLine) : OpR X (compareOp .Eq) (rSameL X.K false) := by
  intro pins s σ H x y v u Q I rx ry h
  obtain ⟨a, b, vs, ws, rfl, rfl, sa, sb, p, q⟩ := h
  obtain rfl : v = Value.ref a := rx
  obtain rfl : u = Value.ref b := ry
  obtain ⟨its, rv, hl, _⟩ := I.list sa
  obtain ⟨its2, rw2, hl2, _⟩ := I.list sb
  obtain ⟨e, he⟩ := same_items I hu rv rw2 p
  refine SeqAt.eq_listAt (e := fun _ => true) hl.isList hl2.isList (by simpa using e) (by omega) (fun j h1 h2 => ?_) ⟨.bl true, H, I, ?_, q⟩
  · simpa using he j (by simpa using h1) (by simpa using h2)
  · show Value.bool _ = Value.bool true
    simp
theorem op_neL (hu : X.A.units + 64 < cLine) : OpR X (compareOp .NotEq) (rSameL X.K true) := by
  intro pins s σ H x y v u Q I rx ry h
  obtain ⟨a, b, vs, ws, rfl, rfl, sa, sb, p, q⟩ := h
  obtain rfl : v = Value.ref a := rx
  obtain rfl : u = Value.ref b := ry
  obtain ⟨its, rv, hl, _⟩ := I.list sa
  obtain ⟨its2, rw2, hl2, _⟩ := I.list sb
  obtain ⟨e, he⟩ := same_items I hu rv rw2 p
  refine SeqAt.RcNeAt.lists (e := fun _ => true) hl.isList hl2.isList (by simpa using e) (by omega) (fun j h1 h2 => ?_) X.prog X.w X.xe _ ⟨.bl false, H, I, ?_, q⟩
  · simpa using he j (by simpa using h1) (by simpa using h2)
  · show Value.bool _ = Value.bool false
    simp
theorem op_neDT (hu : X.A.units + 64 < cLine) : OpR X (compareOp .NotEq) (rDictTup X.K) := by
  intro pins s σ H x y v u Q I rx ry h
  obtain ⟨a, b, ks, ws, rfl, rfl, ha, sb, q⟩ := h
  obtain rfl : v = Value.ref a := rx
  obtain rfl : u = Value.ref b := ry
  obtain ⟨_, _, va, _, o, es, ep, ho, hx, hd, _⟩ := (show ObjOk X.prog X.w H s.heap a (.dK ks) from I.hok a _ ha)
  obtain ⟨its, rv, ht, _⟩ := I.tuple sb
  exact SeqAt.dl_rcNe_dict_tuple ho hx hd ht (by omega) X.prog X.w X.xe _ ⟨.bl true, H, I, rfl, q⟩
/-- an item that may be a dict -/
def itemF (M : Mem) (d : D) : Prop := flatN 8 d = true ∨ ∃ p kvs, d = .obj p ∧ M p = some (.dic kvs)
theorem eqv_self (n : Nat) (d : D) (h : flatN n d = true) : PyData.eqv (toPy d) (toPy d) = true := by
  have lst : ∀ (n : Nat) (h : ∀ d, flatN n d = true → PyData.eqv (toPy d) (toPy d) = true) (xs : List D), flatL n xs = true → PyData.eqvAll (toPyL xs) (toPyL xs) = true := by
    intro n h xs
    induction xs with
    | nil => intro _; rfl
    | cons x xs ih =>
      intro hf
      unfold flatL at hf
      rw [Bool.and_eq_true] at hf
      show (PyData.eqv (toPy x) (toPy x) && PyData.eqvAll (toPyL xs) (toPyL xs)) = true
      rw [h x hf.1, ih hf.2]; rfl
  induction n generalizing d with
  | zero =>
    cases d with
    | non => rfl
    | bl b => cases b <;> rfl
    | int i => show (i == i) = true; exact beq_self_eq_true i
    | str s => show (s == s) = true; exact beq_self_eq_true s
    | _ => simp [flatN] at h
  | succ n ih =>
    cases d with
    | non => rfl
    | bl b => cases b <;> rfl
    | int i => show (i == i) = true; exact beq_self_eq_true i
    | str s => show (s == s) = true; exact beq_self_eq_true s
    | lst xs => exact lst n ih xs (by simpa [flatN] using h)
    | tup xs => exact lst n ih xs (by simpa [flatN] using h)
    | _ => simp [flatN] at h
theorem sameV_reps {G H : Hp} {M : Mem} (e : Same G H) : ∀ {vs ws : List V} {ds : List D}, RepL K G vs ds → RepL K G ws ds → (∀ d ∈ ds, itemF M d) → Paired (SameV K H) vs ws
  | _, _, _, .nil, .nil, _ => .nil
  | _, _, d :: ds, .cons r1 t1, .cons r2 t2, h => by
    refine .cons ?_ (sameV_reps e t1 t2 fun d hd => h d (List.mem_cons_of_mem _ hd))
    rcases h d List.mem_cons_self with hf | ⟨p, kvs, hd, _⟩
    · obtain ⟨a1, b1, c1⟩ := Rep.dp e r1 hf
      obtain ⟨a2, _, _⟩ := Rep.dp e r2 hf
      exact .inr ⟨_, a1, a2, b1, by omega, eqv_self 8 d hf⟩
    · subst hd
      cases r1
      cases r2
      exact .inl ⟨_, rfl, rfl⟩
/-- ==, != : as ever; two lists with the same items; a dict and a tuple -/
def oEqX (neg : Bool) (x y : D) (M : Mem) (Q : QD) : Prop := oEqN neg x y M Q ∨ (∃ ds, res M x = .lst ds ∧ res M y = .lst ds ∧ (∀ d ∈ ds, itemF M d) ∧ Q (.bl (!neg)) M) ∨ (neg = true ∧ ∃ p kvs ts, x = .obj p ∧ M p = some (.dic kvs) ∧ y = .tup ts ∧ Q (.bl true) M)
theorem l_eqX : LOp K (fun x y H Q => rEqA K x y H Q ∨ rSameL K false x y H Q) (oEqX false) := by
  intro x y H G M dx dy Q Q' ok rx ry h hq
  rcases h with h | ⟨ds, e1, e2, hf, h⟩ | ⟨h, _⟩
  · exact .inl (l_eq x y H G M dx dy Q Q' ok rx ry h hq)
  · obtain ⟨a, vs, f1, h1, q1, _⟩ := rx.lstOf ok e1
    obtain ⟨b, ws, f2, h2, q2, _⟩ := ry.lstOf ok e2
    exact .inr ⟨a, b, vs, ws, f1, f2, SqL.of h1, SqL.of h2, sameV_reps ok.sub q1 q2 hf, hq _ _ _ _ _ h ok (Same.refl _) (.bl _)⟩
  · cases h
theorem l_neX : LOp K (fun x y H Q => rNeA K x y H Q ∨ (rSameL K true x y H Q ∨ rDictTup K x y H Q)) (oEqX true) := by
  intro x y H G M dx dy Q Q' ok rx ry h hq
  rcases h with h | ⟨ds, e1, e2, hf, h⟩ | ⟨_, p, kvs, ts, e1, e2, e3, h⟩
  · exact .inl (l_ne x y H G M dx dy Q Q' ok rx ry h hq)
  · obtain ⟨a, vs, f1, h1, q1, _⟩ := rx.lstOf ok e1
    obtain ⟨b, ws, f2, h2, q2, _⟩ := ry.lstOf ok e2
    exact .inr (.inl ⟨a, b, vs, ws, f1, f2, SqL.of h1, SqL.of h2, sameV_reps ok.sub q1 q2 hf, hq _ _ _ _ _ h ok (Same.refl _) (.bl _)⟩)
  · subst e1 e3
    obtain ⟨g, kv, hH, _, _⟩ := ok.mem _ _ e2
    cases rx
    cases ry with
    | tup hg q z => exact .inr (.inr ⟨_, _, _, _, rfl, rfl, hH, SqT.of (ok.sub _ _ hg), hq _ _ _ _ _ h ok (Same.refl _) (.bl _)⟩)
end
section
variable {X : Cx} {W : WX} {a b : Expr} {ta tb : DE} {pos : Pos}
theorem op_eqX (hu : X.A.units + 64 < cLine) : OpR X (compareOp .Eq) (fun x y H Q => rEqA X.K x y H Q ∨ rSameL X.K false x y H Q) := OpR.or (op_eqA hu) (op_eqL hu)
theorem op_neX (hu : X.A.units + 64 < cLine) : OpR X (compareOp .NotEq) (fun x y H Q => rNeA X.K x y H Q ∨ (rSameL X.K true x y H Q ∨ rDictTup X.K x y H Q)) := OpR.or (op_neA hu) (OpR.or (op_neL hu) (op_neDT hu))
theorem pd_eqX (hu : X.A.units + 64 < cLine) (ha : PD X W a ta) (hb : PD X W b tb) : PD X W (.Compare a [.Eq] [b] pos) (dOp (oEqX false) ta tb) := pd_cmp (op_eqX hu) l_eqX ha hb (nomark _)
theorem pd_neX (hu : X.A.units + 64 < cLine) (ha : PD X W a ta) (hb : PD X W b tb) : PD X W (.Compare a [.NotEq] [b] pos) (dOp (oEqX true) ta tb) := pd_cmp (op_neX hu) l_neX ha hb (nomark _)
theorem pdt_eqX (hu : X.A.units + 64 < cLine) (ha : PD X W a ta) (hb : PD X W b tb) : PDT X W (.Compare a [.Eq] [b] pos) (dB (dOp (oEqX false) ta tb)) := pdt_cmp (op_eqX hu) l_eqX ha hb (nomark _)
theorem pdt_neX (hu : X.A.units + 64 < cLine) (ha : PD X W a ta) (hb : PD X W b tb) : PDT X W (.Compare a [.NotEq] [b] pos) (dB (dOp (oEqX true) ta tb)) := pdt_cmp (op_neX hu) l_neX ha hb (nomark _)
/-- {}, a dict that may change -/
def dDic0M : DE := fun _ M Q _ => ∀ p, M p = none → Q (.obj p) (M.set p (.dic []))
theorem pd_dic0M : PD X W (.Dict [] [] pos) dDic0M :=
  PEw pe_dnewK fun σ H Q ⟨G, M, δ, Q', X', ok, sl, h, hq, hx⟩ p hp => hq _ _ _ _ _ (h p (ok.mnone hp)) (ok.write (m := .dic []) (ok.gnone hp) ⟨[], upd_same, rfl, .nil⟩) (Same.refl _) (.obj p)
end
end DL

/-! The data layer: defs called in an except suite, with what is known of the exception (its address, its class) -/
namespace DL
open PySem PySem.Spec PyProof.Rows L2

/-- what is handled: the exception at a, of the class at ec; its chain of contexts has an end -/
def HotL (A : Around) (a ec : Addr) (l : List (Addr × Obj)) : Prop := ∃ (oe : Obj) (r : List (Addr × Obj)) (vs : Array Value) (c : Value), l = (a, oe) :: r ∧ A.handled = some (.ref a) ∧ L2.Zc (.ref ec) none oe ∧ oe.data = .fields vs ∧ vs[2]? = some c ∧ c = .none
def HotX (X : Cx) (a ec : Addr) : Prop := ∃ l, HotL X.A a ec l ∧ ∀ p ∈ l, p ∈ X.pn
/-- what a def promises where an exception is handled -/
structure FnG (P : Program) (w : World) (K : PySem.W.Frag) (mg : Str → Option Value) (base : Heap) (CX : Addr → CXT) (k : Nat) (f : Addr) (fd : FuncData) (ps : List Str) (sp : Addr → Addr → Sp) : Prop where
  len : ∀ a ec vs H Q E, sp a ec vs H Q E → vs.length = ps.length
  run : ∀ (A : Around) (outer : List Env) (s : Shared) (H : Hp) (args : Args) (us : List Value) (vs : List V) (Q : VK) (E : XK) (a ec : Addr) (l : List (Addr × Obj)), L2H.RoomH k A → HotL A a ec l → (∀ p ∈ l, L2H.PinOk outer H s p) → Env0 P w K mg base A outer s H →
    BindsTo s fd args (ps.zip us) → Vals vs us → sp a ec vs H Q E → codeAny (model P w) A (.call (.ref f) args) (CR (CX a) outer P w H s Q E) s
/-- the body's context -/
def cxG (CX : CXT) (P : Program) (w : World) (K : PySem.W.Frag) (mg : Str → Option Value) (base : Heap) (N : List Str) (qual : Str) (scope : Scope) (f : Addr) (cd : Value) (A : Around) (outer : List Env) (s : Shared) (H : Hp) (E : XK) (l : List (Addr × Obj)) : Cx :=
  { cxOf CX P w K mg base N qual scope f cd A outer s H E with calm := false, pn := l }
theorem HotL.deeper {A : Around} {a ec : Addr} {l : List (Addr × Obj)} (h : HotL A a ec l) (env : Env) : HotL (A.deeper env) a ec l := h
theorem HotL.x {CX : CXT} {P : Program} {w : World} {K : PySem.W.Frag} {mg : Str → Option Value} {base : Heap} {N : List Str} {qual : Str} {scope : Scope} {f : Addr} {cd : Value} {A : Around} {outer : List Env} {s : Shared} {H : Hp} {E : XK} {a ec : Addr} {l : List (Addr × Obj)}
    (h : HotL A a ec l) : HotX (cxG CX P w K mg base N qual scope f cd A outer s H E l) a ec := ⟨l, h.deeper _, fun _ hp => hp⟩
section
variable {P : Program} {w : World} {K : PySem.W.Frag} {mg : Str → Option Value} {base : Heap}
theorem inv_startG {CX : CXT} {N ps : List Str} {qual : Str} {scope : Scope} {f : Addr} {cd : Value} {A : Around} {outer : List Env} {s s1 : Shared} {H : Hp} {E : XK} {us : List Value} {vs : List V} {a ec : Addr} {l : List (Addr × Obj)}
    (S : FnScope N ps scope) (hot : HotL A a ec l) (hpin : ∀ p ∈ l, L2H.PinOk outer H s p) (e0 : Env0 P w K mg base A outer s H) (hl : vs.length = ps.length) (r : Vals vs us)
    (x : InCallC s s.heap.objs.size (bindL (envOfC qual scope s.heap.objs.size f cd).kindOf (ps.zip us) fun _ => none) (cellsFrom (s.heap.objs.size + 1) scope.names []) (bindC (envOfC qual scope s.heap.objs.size f cd).kindOf (ps.zip us) fun _ => none) s1) :
    Inv (cxG CX P w K mg base N qual scope f cd A outer s H E l) [] (L2.start N vs) H s1 := by
  obtain ⟨oe, r0, vs0, c, hl0, _⟩ := id hot
  have I := L2H.inv_startH (CX := CX) (E := E) S (hpin (a, oe) (by rw [hl0]; exact List.mem_cons_self)) e0 hl r x
  obtain ⟨h1, tk, rfl, hk⟩ := x.done
  exact ⟨I.ok.toTry l _, I.os, I.bare, I.base, I.loc, I.cell, I.free, I.freeC, fun q hq => by
    have hp := hpin q (by
      have z : q ∈ l ++ [] := hq
      rwa [List.append_nil] at z)
    exact ⟨hk q.1 q.2 hp.get, hp.free, Nat.ne_of_lt (Heap.lt_size hp.get), hp.nofs, hp.nocell⟩, I.hok, I.len⟩
theorem fn_ofG {CX : Addr → CXT} {x qual : Str} {st : Stmt} {f : Addr} {fd : FuncData} {N ps : List Str} {k : Nat} {sp : Addr → Addr → Sp} (F : Fun K x qual st f fd) (S : FnScope N ps (defScope st)) (len : ∀ a ec vs H Q E, sp a ec vs H Q E → vs.length = ps.length)
    (hbody : ∀ (cdv : Value) (A : Around) (outer : List Env) (s : Shared) (H : Hp) (vs : List V) (Q : VK) (E : XK) (a ec : Addr) (l : List (Addr × Obj)), HotL A a ec l → L2H.RoomH k (A.deeper (envOfC qual (defScope st) s.heap.objs.size f cdv)) → sp a ec vs H Q E →
      ∃ t, PSs (cxG (CX a) P w K mg base N qual (defScope st) f cdv A outer s H E l) (defBody st) t ∧ t { nx := fun _ H' => Q .non H', rt := Q } (L2.start N vs) H) : FnG P w K mg base CX (k + 1) f fd ps sp := by
  obtain ⟨oc, od, kV, doc, pm, an, cdv, ct, osl, rfl, lk, hcd⟩ := F.ex
  refine ⟨len, fun A outer s H args us vs Q E a ec l hr hot hpin e0 hb r hsp => ?_⟩
  have hl := len _ _ _ _ _ _ hsp
  have KX : K.In s.heap := e0.mod.kin.keeps fun b o e => (e0.bs b o e).1
  have hkind : ∀ y ∈ ps.zip us, (defScope st).names.lookup y.1 = some .local ∨ ((defScope st).names.lookup y.1 = some .cell ∧ ((cellsFrom (s.heap.objs.size + 1) (defScope st).names []).lookup y.1).isSome = true) := fun ⟨n, v⟩ hy =>
    (S.par n (List.of_mem_zip hy).1).imp id fun q => ⟨q, PySem.W.cellsFrom_some _ _ _ (.inl q)⟩
  refine codeAny_call_function hr.depth (KX _ _ lk) rfl S.co S.gen rfl (PySem.W.codeRec_of KX hcd) (hb _ _ _ _ (wpAny_newFunctionEnv_cells S.kind hkind fun env he s1 x => ?_))
  subst he
  refine ⟨(e0.mod.nolimit.keeps fun b o e => (e0.bs b o e).1).keeps x.toInCall.keep, codeAny_func ?_⟩
  obtain ⟨t, ht, hq⟩ := hbody cdv A outer s H vs Q E a ec l hot (hr.deeper _) hsp
  refine wpAny_mono (ht.run [] s1 _ H _ (inv_startG S hot hpin e0 hl r x) hq) (fun fl s' hs => ?_) fun e s' hs => hs
  cases fl with
  | ret u =>
    obtain ⟨v, σ', H', J, rv, q⟩ := hs
    exact ⟨v, H', J.os, J.bare, J.base, J.hok, rv, q⟩
  | next =>
    obtain ⟨σ', H', J, q⟩ := hs
    exact ⟨V.non, H', J.os, J.bare, J.base, J.hok, rfl, q⟩
  | brk =>
    obtain ⟨_, _, _, q⟩ := hs
    exact q.elim
  | cont =>
    obtain ⟨_, _, _, q⟩ := hs
    exact q.elim
end

/-! ### over data -/
def spG (K : PySem.W.Frag) (m : Addr → Addr → FDm) : Addr → Addr → Sp := fun a ec => spD K (m a ec)
abbrev FnGD (P : Program) (w : World) (K : PySem.W.Frag) (mg : Str → Option Value) (base : Heap) (CX : Addr → CXT) (k : Nat) (f : Addr) (fd : FuncData) (ps : List Str) (m : Addr → Addr → FDm) : Prop := FnG P w K mg base CX k f fd ps (spG K m)
section
variable {P : Program} {w : World} {K : PySem.W.Frag} {mg : Str → Option Value} {base : Heap} {CX : Addr → CXT}
theorem okG {x qual : Str} {st : Stmt} {f : Addr} {fd : FuncData} {N ps : List Str} {k : Nat} {m : Addr → Addr → FDm} {t : Addr → Addr → DSt} (F : Fun K x qual st f fd) (S : FnScope N ps (defScope st)) (len : ∀ a ec ds M Q X, m a ec ds M Q X → ds.length = ps.length) (hn : ps.length ≤ N.length)
    (der : ∀ (cdv : Value) (A : Around) (outer : List Env) (s : Shared) (H : Hp) (E : XK) (a ec : Addr) (l : List (Addr × Obj)), HotL A a ec l → L2H.RoomH k (A.deeper (envOfC qual (defScope st) s.heap.objs.size f cdv)) →
      PDSs (cxG (CX a) P w K mg base N qual (defScope st) f cdv A outer s H E l) (WE0 E) (defBody st) (t a ec))
    (read : ∀ a ec ds M Q X, m a ec ds M Q X → t a ec (bodyE Q X) (startD N.length ds) M) : FnGD P w K mg base CX (k + 1) f fd ps m := by
  refine fn_ofG F S (fun a ec vs H Q E ⟨G, M, ds, Q', X', ok, r, h, _, _⟩ => by rw [r.len]; exact len _ _ _ _ _ _ h) fun cdv A outer s H vs Q E a ec l hot hr ⟨G, M, ds, Q', X', ok, r, h, hq, hx⟩ => ?_
  refine ⟨_, der cdv A outer s H E a ec l hot hr, G, M, startD N.length ds, _, ok, ?_, read a ec ds M Q' X' h, ?_⟩
  · have hl := r.len
    rw [len _ _ _ _ _ _ h] at hl
    exact start_slots N.length r (by rw [hl]; exact hn)
  · refine ⟨fun δ M1 σ H1 G1 ⟨M2, s2, q⟩ ok1 e1 sl1 => hq .non M2 .non H1 G1 q (ok1.weak s2) e1 .non, fun d M1 v H1 G1 ⟨M2, s2, q⟩ ok1 e1 r1 => hq d M2 v H1 G1 q (ok1.weak s2) e1 r1, fun _ _ _ _ _ z => z.elim, fun _ _ _ _ _ z => z.elim, fun cls δ M1 σ H1 G1 ⟨M2, s2, q⟩ ok1 e1 sl1 => hx cls M2 H1 G1 q (ok1.weak s2) e1⟩
end
def HasG (P : Program) (w : World) (K : PySem.W.Frag) (mg : Str → Option Value) (base : Heap) (CX : Addr → CXT) (x : Str) (ps : List Str) (k : Nat) (m : Addr → Addr → FDm) : Prop := ∃ (f : Addr) (fd : FuncData), mg x = some (.ref f) ∧ PySem.W.keepIn K (.ref f) = true ∧ Binds K fd ps [] ∧ FnGD P w K mg base CX k f fd ps m
section
variable {X : Cx} {W : WX} {CX : Addr → CXT} {k : Nat} {f a ec : Addr} {fd : FuncData} {ps : List Str} {m : Addr → Addr → FDm} {x : Str} {p pos : Pos} {e : Expr} {es : List Expr} {t : DA}
theorem run_fnG {sp : Addr → Addr → Sp} {E : XK} {pins : List (Addr × Obj)} {σ : L2.St} {H : Hp} {s : Shared} {Q : VK} {us : List Value} {vs : List V} (F : FnG X.prog X.w X.K X.mg X.base CX k f fd ps sp) (hr : L2H.RoomH k X.A) (hc : HotX X a ec) (hb : Binds X.K fd ps []) (hx : PassesAt (CX a) X σ E)
    (I : Inv X pins σ H s) (r : Vals vs us) (h : sp a ec vs H Q E) : wpAny (model X.prog X.w) X.A (call (.ref f) us) (EP X pins σ Q) X.xe s := by
  obtain ⟨l, hot, hp⟩ := hc
  have b := hb s us I.kIn (by rw [List.append_nil, ← r.length]; exact F.len _ _ _ _ _ _ h)
  rw [List.append_nil] at b
  have hpin : ∀ q ∈ l, L2H.PinOk X.stack H s q := fun q hq => by
    have P1 := I.pin q (List.mem_append_left _ (hp q hq))
    exact ⟨P1.1, P1.2.1, fun hm => (List.mem_cons.mp (I.stkSub q.1 hm)).elim P1.2.2.1 P1.2.2.2.1, P1.2.2.2.2⟩
  refine wpAny_call (codeAny_mono (F.run X.A X.stack s H ⟨us, []⟩ us vs Q E a ec l hr hot hpin I.env0 b r h) fun r s' hq => ?_)
  match r, hq with
  | .error e, hq => exact hx pins H s e s' I hq
  | .ok (.ret u), hq => exact I.after hq
theorem pd_callG (hc : HotX X a ec) (F : HasG X.prog X.w X.K X.mg X.base CX x ps k m) (hr : L2H.RoomH k X.A) (hx : ∀ σ, PassesAt (CX a) X σ (WE W σ)) (hg : Gl X x)
    (ha : PDA X W (e :: es) t) (hdb : (x == ("__debug__" : Str)) = false := by decide) (he : starEach (e :: es) X.env = (false, eval e X.env) :: starEach es X.env := by rfl) (hpl : (backTo pos (starEach es X.env)).any (·.1) = false := by rfl) :
    PD X W (.Call (.Name x p) (e :: es) [] pos) (dFn (m a ec) t) := by
  obtain ⟨f, fd, hm, hk, hb, F⟩ := F
  have base : PE X (.Call (.Name x p) (e :: es) [] pos) (tCallS (spG X.K m a ec) (fun σ => WE W σ) (upA X.K W t)) := by
    refine ⟨fun pins s σ H Q I h => ?_⟩
    refine wpAny_Call_Name_kw (ld_glob I hg hm ?_ hdb)
    exact PySem.W.callWith_K (h₀ := X.base) I.ok.mod.kin hk (thn (ha.run pos pins s σ H _ I h) fun us s1 ⟨vs, H1, I1, r, q⟩ => ⟨I1.kIn, run_fnG F hr hc hb (hx σ) I1 r q⟩) he hpl
  exact PEw base fun σ H Q ⟨G, M, δ, Q', X', ok, sl, h, hq, hx⟩ => ⟨G, M, δ, _, X', ok, sl, h, fun ds M1 vs H1 G1 h1 ok1 e1 r1 =>
    ⟨G1, M1, ds, Q', _, ok1, r1, h1, fun d M2 v H2 G2 h2 ok2 e2 r2 => hq _ _ _ _ _ h2 ok2 (e1.trans e2) r2, fun cls M2 H2 G2 h2 ok2 e2 => hx _ _ _ _ _ _ h2 ok2 (e1.trans e2) (sl.mono (e1.trans e2))⟩, hx⟩
end
/-- nothing raised goes on from a suite -/
theorem passN0 {X : Cx} {σ : L2.St} : PassesAt (L2N.CX X.prog X.w) X σ (WE W0 σ) := fun _ _ _ _ _ _ ⟨_, _, _, _, _, _, _, _, _, _, _, _, z⟩ => z.elim
/-- the suite of try .. except .. as e, the exception raised where nothing was handled -/
theorem hot_suite {X : Cx} {a ec : Addr} {oe : Obj} {pn : List (Addr × Obj)} (hz : L2N.Zn (.ref ec) none oe) (hf : ∃ vs, oe.data = .fields vs) : HotX (X.suite a ((a, oe) :: pn)) a ec :=
  let ⟨vs, hv⟩ := hf
  ⟨[(a, oe)], ⟨oe, [], vs, .none, rfl, rfl, hz.zc, hv, hz.2.2 vs hv, rfl⟩, fun p hp => by
    rw [List.mem_singleton.mp hp]
    exact List.mem_cons_self⟩
theorem call_isEG {X : Cx} {a ec : Addr} (hc : HotX X a ec) : CallR X (.builtin "isinstance") (rIsEA X.K ec a) := by
  obtain ⟨l, ⟨oe, r, vs, c, hl, hh, hz, hv, _⟩, hp⟩ := hc
  intro pins s σ H xs us Q I rr ⟨C, h⟩
  have hm : (a, oe) ∈ X.pn := hp _ (by rw [hl]; exact List.mem_cons_self)
  obtain ⟨hget, _⟩ := I.pin (a, oe) (List.mem_append.mpr (.inl hm))
  have J : PySem.W.InstAt s.heap a oe ec none := by
    obtain ⟨oc, od, oda, osl⟩ := oe
    obtain ⟨h1, h2⟩ := hz
    dsimp only at h1 h2 hv
    subst h1 h2 hv
    exact ⟨hget, rfl, rfl, trivial⟩
  rcases h with ⟨cc, cv, b, rfl, hcv, e, q⟩ | ⟨tp, cs, b, rfl, hT, e, q⟩
  · cases rr with
    | cons rx rr =>
      cases rr with
      | cons rt rr =>
        cases rr
        cases rx
        cases hcv _ rt
        exact PySem.W.kia_one (PySem.W.handS_kitx_exc C.hg C.hk C.hs C.hd C.ha C.hn C.ht C.hm) I.kIn J e (fun z => nomatch z) fun tk => ⟨.bl b, H, I.kept (t' := tk) fun _ _ z => z, rfl, q⟩
  · cases rr with
    | cons rx rr =>
      cases rr with
      | cons rt rr =>
        cases rr
        cases rx
        cases rt
        obtain ⟨its, rv, ⟨o, h1, h2, n, h3⟩, _⟩ := I.tuple hT
        obtain ⟨oc, od, dt, sl⟩ := o
        simp only at h2 h3
        subst h2 h3
        exact PySem.W.kia_tup (PySem.W.handS_kitx_exc C.hg C.hk C.hs C.hd C.ha C.hn C.ht C.hm) I.kIn J h1 (e its rv) (fun z => nomatch z) fun tk => ⟨.bl b, H, I.kept (t' := tk) fun _ _ z => z, rfl, q⟩
theorem hu_ofG {A : Around} {k : Nat} (hr : L2H.RoomH k A) : A.units + 1 < cLine := by have := hr.un; omega
theorem hw_ofG {A : Around} {k : Nat} (hr : L2H.RoomH k A) : A.units + 64 < cLine := by have := hr.un; omega
/-- {k: v} -/
def dDis1 (tk tv : DE) : DE := fun δ M Q X => ∀ p, M p = none → tk δ (M.set p (.dic [])) (fun k M1 => ∃ z, k = .str z ∧ tv δ M1 (fun v M2 => M2 p = some (.dic []) ∧ Q (.obj p) (M2.set p (.dic [(z, v)]))) X) X
theorem pd_dis1 {X : Cx} {W : WX} {k v : Expr} {tk tv : DE} {pos : Pos} (hk : PD X W k tk) (hv : PD X W v tv) : PD X W (.Dict [some k] [v] pos) (dDis1 tk tv) :=
  PEw (pe_disp (pps_cons hk hv pps_nil) rfl rfl (fun z => nomatch z) (by simp)) fun σ H Q ⟨G, M, δ, Q', X', ok, sl, h, hq, hx⟩ p hp => by
    have gp := ok.gnone hp
    have ok0 := ok.write (o := .dK []) (m := .dic []) gp ⟨[], upd_same, rfl, .nil⟩
    refine ⟨G, _, δ, _, X', ok0, sl, h p (ok.mnone hp), fun d M1 x H1 G1 ⟨z, ez, h1⟩ ok1 e1 r1 => ⟨G1, M1, δ, _, X', ok1, sl.mono e1, h1, fun d2 M2 y H2 G2 ⟨m2, h2⟩ ok2 e2 r2 => ?_, hx.mono e1⟩, hx⟩
    subst ez
    cases r1
    obtain ⟨g1, kv0, f2, f3, _⟩ := ok2.mem _ _ m2
    have z0 : kv0 = [] := by cases kv0 with
      | nil => rfl
      | cons _ _ => cases f3
    subst z0
    exact ⟨f2, [(Sum.inr z, y)], rfl, by simp, hq _ _ _ _ _ h2 (ok2.write (m := .dic [(z, d2)]) g1 ⟨[(Sum.inr z, y)], upd_same, rfl, .cons r2 .nil⟩) (e1.trans e2) (.obj p)⟩

/-! ### for over range -/
theorem HotX.c {X : Cx} {a ec : Addr} (h : DL.HotX X a ec) : L2H.HotC X := by
  obtain ⟨l, ⟨oe, r, vs, c, hl, hh, hz, hv, hc, e⟩, hp⟩ := h
  exact ⟨(a, oe), ⟨hh, vs, hv, by rw [hc, e]⟩, hp _ (by rw [hl]; exact List.mem_cons_self)⟩
abbrev PDIH (X : Cx) (W : WX) (tg iter : Expr) (t : DI) : Prop := L2H.PIH X tg iter (upI X.K W t)
section
variable {X : Cx} {W : WX} {tg : Expr} {t : DA}
theorem pdi_range1G {e : Expr} {p pos : Pos} (hg : Gl X "range") (hm : X.mg "range" = none) (ha : PDA X W [e] t) (hs : starEach [e] X.env = [(false, eval e X.env)] := by rfl) : PDIH X W tg (.Call (.Name "range" p) [e] [] pos) (dRange1 t) :=
  ⟨fun pins s σ H R I h => (L2H.pi_range1H hg hm ha hs).run pins s σ H R I (range_up σ H R h)⟩
theorem pds_forG {a ec : Addr} {iter : Expr} {body : List Stmt} {pos : Pos} {ti : DI} {g : DG} {tb : DSt} (hp : PassesOwn (model X.prog X.w) X.A X.env X.xe) (hc : DL.HotX X a ec) (hi : PDIH X W tg iter ti) (hg : PDG X tg g) (hb : PDSs X W body tb)
    (hs : ∀ x, foldedSetIterable iter X.env x = pure x := by intro _; rfl) : PDS X W (.For tg iter body [] pos) (dFor ti g tb) := PSw (L2H.ps_forH hp hc.c hi hg hb hs) for_up
end
end DL

namespace My
open PySem PySem.Spec PyProof.Rows L2 DL
local macro_rules | `(tactic| walk_at "dl") => `(tactic| try simp -implicitDefEqProofs only [DL.dNext, DL.dSeq, DL.dExpr, DL.dRet, DL.dIfS, DL.dSet, DL.dCont, DL.dRaise, DL.dFor, DL.dgName, DL.dgPair, DL.dTry, DL.dFn, DL.dMth, DL.dMk, DL.dFld, DL.dFldS, DL.dPut, DL.dVar, DL.slot, DL.dC, DL.dOp, DL.dUn, DL.oSub, DL.oMul, DL.oDiv, DL.oMod, DL.oPow, DL.oLt, DL.oLe, DL.oGt, DL.oGe, DL.oEq, DL.oNe, DL.oIn, DL.oNotIn, DL.dB, DL.dIsN, DL.dChain, DL.dAnd, DL.dOr, DL.dNot, DL.dAndV, DL.dOrV, DL.dNotV, DL.dIf, DL.dNil, DL.dCons, DL.few, DL.dLst, DL.dTup, DL.dLstM, DL.dFrz, DL.dPairs, DL.dDisp, DL.dDic0, DL.dSl, DL.dNoPart, DL.dCall, DL.dMet0L, DL.dMet, DL.dItems, DL.dRange1, DL.dEnum, DL.dLcM, DL.dwipe, DL.startD, DL.dNever, DL.el_some, DL.elL_lst, DL.elD_dic, DL.elI_ins, DL.res_non, DL.res_bl, DL.res_int, DL.res_str, DL.res_lst, DL.res_tupE, DL.res_dic, DL.res_scr, DL.res_ty, DL.oAdd_eq, DL.addR_int, DL.addR_str, DL.addR_lst, DL.addR_tup, DL.oAddM_eq, DL.addMR_lst, DL.oInt_eq, DL.intR_int, DL.oInt0_eq, DL.int0R_int, DL.oNeg_eq, DL.negR_int, DL.oEqN_eq, DL.eqR_some, DL.eqR_none, DL.eqS_non_non, DL.eqS_non_int, DL.eqS_non_bl, DL.eqS_non_str, DL.eqS_non_lst, DL.eqS_non_tup, DL.eqS_int_non, DL.eqS_int_int, DL.eqS_int_bl, DL.eqS_int_str, DL.eqS_int_lst, DL.eqS_int_tup, DL.eqS_bl_non, DL.eqS_bl_int, DL.eqS_bl_bl, DL.eqS_bl_str, DL.eqS_bl_lst, DL.eqS_bl_tup, DL.eqS_str_non, DL.eqS_str_int, DL.eqS_str_bl, DL.eqS_str_str, DL.eqS_str_lst, DL.eqS_str_tup, DL.eqS_lst_non, DL.eqS_lst_int, DL.eqS_lst_bl, DL.eqS_lst_str, DL.eqS_lst_lst, DL.eqS_lst_tup, DL.eqS_tup_non, DL.eqS_tup_int, DL.eqS_tup_bl, DL.eqS_tup_str, DL.eqS_tup_lst, DL.eqS_tup_tup, DL.eqS_obj_non, DL.eqS_non_obj, DL.eqS_obj_int, DL.eqS_int_obj, DL.eqS_obj_bl, DL.eqS_bl_obj, DL.eqS_obj_str, DL.eqS_str_obj, DL.eqS_obj_lst, DL.eqS_lst_obj, DL.eqS_obj_tup, DL.eqS_tup_obj, DL.eqS_obj_obj, DL.oInN_eq, DL.inR_lst, DL.inR_tup, DL.inR_str, DL.flatD_non, DL.flatD_bl, DL.flatD_int, DL.flatD_str, DL.asB_bl, DL.isN_non, DL.isN_bl, DL.isN_int, DL.isN_str, DL.isN_lst, DL.isN_tup, DL.isN_dic, DL.isN_scr, DL.isN_ty, DL.isN_obj, DL.frz_non, DL.frz_bl, DL.frz_int, DL.frz_str, DL.frz_lst, DL.frz_tup, DL.frz_dic, DL.frz_scr, DL.frz_ty, DL.oIx_eq, DL.ixR_lst, DL.ixR_tup, DL.ixR_scr, DL.ixR_str, DL.ixR_dic, DL.nth_0, DL.nth_1, DL.nth_2, DL.nth_3, DL.oSl_eq, DL.slR_lst, DL.slR_tup, DL.slR_str, DL.dPart_eq, DL.partR_int, DL.on1_cons, DL.on2_cons, DL.lenD_lst, DL.lenD_tup, DL.lenD_scr, DL.lenD_str, DL.intD_int, DL.intD_bl, DL.strD_int, DL.int2_int, DL.listM_lst, DL.listF_lst, DL.listM_tup, DL.listF_tup, DL.dictM_dic, DL.isiD_ty, DL.oAppend_obj, DL.oInsert_obj, DL.oPop_obj, DL.oPopAt_obj, DL.isLst_eq, DL.isLstR_lst, DL.isStr_str, DL.oSplit_str, DL.oJoin_str, DL.itemsOf_lst, DL.itemsOf_tup, DL.itemsOf_str, DL.rng1_int, DL.enumOf_lst, DL.two_tup, DL.insIs_obj, DL.getFld_obj, DL.setFld_obj, DL.putDic_obj, DL.isB_str_non, DL.isB_str_bl, DL.isB_str_int, DL.isB_str_str, DL.isB_str_lst, DL.isB_str_tup, DL.isB_str_dic, DL.isB_int_non, DL.isB_int_bl, DL.isB_int_int, DL.isB_int_str, DL.isB_int_lst, DL.isB_int_tup, DL.isB_int_dic, DL.isB_bool_non, DL.isB_bool_bl, DL.isB_bool_int, DL.isB_bool_str, DL.isB_bool_lst, DL.isB_bool_tup, DL.isB_bool_dic, DL.isB_list_non, DL.isB_list_bl, DL.isB_list_int, DL.isB_list_str, DL.isB_list_lst, DL.isB_list_tup, DL.isB_list_dic, DL.isB_tuple_non, DL.isB_tuple_bl, DL.isB_tuple_int, DL.isB_tuple_str, DL.isB_tuple_lst, DL.isB_tuple_tup, DL.isB_tuple_dic, Bool.cond_true, Bool.cond_false, L2.CDiv, Int.reduceLT, Int.reduceLE, true_and, and_true, cond_true, cond_false, List.map_cons, List.map_nil, List.set_cons_zero, List.set_cons_succ, List.set_nil, DL.cpow_109, DL.pow_109, DL.frz_set_lst, DL.frz_set_dic, Bool.not_true, Bool.not_false, DL.itemsOf_obj, DL.enumOf_obj, DL.all_still])
/-- the wishes as texts -/
def tr : Str := "read"
def tw : Str := "write"
theorem tr_ne_tw : ¬ tr = tw := by decide +kernel
theorem tw_ne_tr : ¬ tw = tr := by decide +kernel
/-- a cell of the script -/
def cellAt (ns : List Int) (k : Int) : Int := (ns[k.toNat]?).getD 0
/-- the signs of names -/
def signsL : List Nat := (Str.ofString "abcdefghijklmnopqrstuvwxyz0123456789").cps.toList
def nameOk (z : Str) : Bool := decide (1 ≤ z.length) && decide (z.length ≤ 12) && z.cps.toList.all fun c => decide (c ∈ signsL)
def isName : D → Bool
  | .str z => nameOk z
  | _ => false
def isWish : D → Bool
  | .str z => decide (z = Str.ofString "read") || decide (z = Str.ofString "write")
  | _ => false
/-- data whose kind is looked at -/
def okD : D → Bool
  | .scr _ => false
  | .obj _ => false
  | .ty _ => false
  | _ => true
theorem okD_non : okD .non = true := rfl
theorem okD_bl (b : Bool) : okD (.bl b) = true := rfl
theorem okD_int (b : Int) : okD (.int b) = true := rfl
theorem okD_str (b : Str) : okD (.str b) = true := rfl
theorem okD_lst (b : List D) : okD (.lst b) = true := rfl
theorem okD_tup (b : List D) : okD (.tup b) = true := rfl
theorem okD_dic (b : List (Str × D)) : okD (.dic b) = true := rfl
-- SIMP okD_non okD_bl okD_int okD_str okD_lst okD_tup okD_dic
theorem ofStr_ne {a b : Str} (h : decide (a = b) = false) : ¬ a = b := of_decide_eq_false h
theorem signs_len : (Str.ofString "abcdefghijklmnopqrstuvwxyz0123456789").cps.toList.length = 36 := by decide +kernel
def signAt (c : Int) : Nat := (signsL[(c % 36).toNat]?).getD 0
theorem signAt_mem (c : Int) : signAt c ∈ signsL := by
  have h1 := Int.emod_nonneg c (show (36 : Int) ≠ 0 by decide)
  have h2 := Int.emod_lt_of_pos c (show (0 : Int) < 36 by decide)
  have hl : (c % 36).toNat < signsL.length := by
    have : signsL.length = 36 := signs_len
    omega
  unfold signAt
  rw [List.getElem?_eq_getElem hl]
  exact List.getElem_mem hl
theorem nth_sign (c : Int) : nth signsL (c % 36) = some (signAt c) := by
  have h1 := Int.emod_nonneg c (show (36 : Int) ≠ 0 by decide)
  have h2 := Int.emod_lt_of_pos c (show (0 : Int) < 36 by decide)
  have hl : (c % 36).toNat < signsL.length := by
    have : signsL.length = 36 := signs_len
    omega
  rw [nth_toNat _ h1]
  unfold signAt
  rw [List.getElem?_eq_getElem hl]
  rfl
/-! one in the line: a name, whether that one wishes to read, how often passed -/
structure Wt where
  name : Str
  rd : Bool
  n : Int
def wishS (b : Bool) : Str := cond b (Str.ofString "read") (Str.ofString "write")
theorem wishS_t : wishS true = Str.ofString "read" := by unfold wishS; rw [cond_true]
theorem wishS_f : wishS false = Str.ofString "write" := by unfold wishS; rw [cond_false]
theorem wishS_read (b : Bool) : decide (wishS b = Str.ofString "read") = b := by cases b <;> decide +kernel
theorem wishS_write (b : Bool) : decide (wishS b = Str.ofString "write") = !b := by cases b <;> decide +kernel
def eW (w : Wt) : D := .tup [.str w.name, .str (wishS w.rd), .int w.n]
def eLine (l : List Wt) : List D := l.map eW
def optI : Option Nat → D
  | none => .non
  | some p => .int (p : Int)
/-- what is to be read is the list ds, whether it may change or not -/
def Vw (d : D) (ds : List D) (M : Mem) : Prop := d = .lst ds ∨ ∃ a, d = .obj a ∧ M a = some (.lst ds)
theorem Vw.lst (ds : List D) (M : Mem) : Vw (.lst ds) ds M := .inl rfl
theorem Vw.obj {a : Addr} {ds : List D} {M : Mem} (h : M a = some (.lst ds)) : Vw (.obj a) ds M := .inr ⟨a, rfl, h⟩
theorem Vw.res {d : D} {ds : List D} {M : Mem} (h : Vw d ds M) : res M d = .lst ds := by
  rcases h with rfl | ⟨a, rfl, h⟩
  · rfl
  · exact res_obj h
theorem Vw.sub {d : D} {ds : List D} {M M' : Mem} (h : Vw d ds M) (s : M.Sub M') : Vw d ds M' := by
  rcases h with rfl | ⟨a, rfl, h⟩
  · exact .inl rfl
  · exact .inr ⟨a, rfl, s a _ h⟩
theorem Vw.enum {d : D} {ds : List D} {M : Mem} (h : Vw d ds M) {F : List D → (Mem → Prop) → Prop} (k : ∀ P : Mem → Prop, P M → F (enumD 0 ds) P) : enumOf [d] M F := by
  rcases h with rfl | ⟨a, rfl, h⟩
  · exact k _ trivial
  · rw [enumOf_obj, h]
    exact k _ h
theorem Vw.eqS_lst {d : D} {ds es : List D} {M : Mem} (h : Vw d ds M) : eqS d (.lst es) = none := by
  rcases h with rfl | ⟨a, rfl, h⟩ <;> rfl
theorem nth_eLine {l : List Wt} {i : Int} (h0 : 0 ≤ i) {w : Wt} (h : l[i.toNat]? = some w) : nth (eLine l) i = some (eW w) := by
  rw [nth_toNat _ h0]
  unfold eLine
  rw [List.getElem?_map, h]
  rfl
/-! who begins -/
def canB (s r : Int) (w rd : Bool) : Bool := cond rd (!w && decide (r < s)) (!w && decide (r = 0))
def firstReader (l : List Wt) : Option Nat := l.findIdx? (·.rd)
def nextPlace (l : List Wt) (s p r : Int) (w : Bool) : Option Nat :=
  match l with
  | [] => none
  | x :: _ =>
    if canB s r w x.rd = true then some 0
    else if x.rd = true ∨ r = 0 then none
    else match firstReader l with
      | none => none
      | some k => if canB s r w true = false then none else if (l.take k).any (fun o => decide (p ≤ o.n)) = true then none else some k
/-! ranges, equal things -/
theorem rangeD_len (n : Nat) : (rangeD 0 n).length = n := by unfold rangeD; rw [List.length_map, List.length_range]
theorem rangeD_get {n k : Nat} {x : D} (h : (rangeD 0 n)[k]? = some x) : k < n ∧ x = .int (k : Int) := by
  unfold rangeD at h
  rw [List.getElem?_map] at h
  by_cases hk : k < n
  · rw [List.getElem?_range hk] at h
    exact ⟨hk, by simpa using h.symm⟩
  · rw [List.getElem?_eq_none (by rw [List.length_range]; omega)] at h
    cases h
theorem eqv_str (a b : Str) : D.eqv (.str a) (.str b) = decide (a = b) := by
  show (a == b) = _
  by_cases h : a = b
  · subst h; rw [beq_self_eq_true, decide_eq_true rfl]
  · rw [beq_eq_false_iff_ne.mpr h, decide_eq_false h]
theorem eqv_int (a b : Int) : D.eqv (.int a) (.int b) = decide (a = b) := by
  show (a == b) = _
  by_cases h : a = b
  · subst h; rw [beq_self_eq_true, decide_eq_true rfl]
  · rw [beq_eq_false_iff_ne.mpr h, decide_eq_false h]
theorem eqv_lst_cons (x y : D) (xs ys : List D) : D.eqv (.lst (x :: xs)) (.lst (y :: ys)) = (D.eqv x y && D.eqv (.lst xs) (.lst ys)) := rfl
theorem eqv_lst_nil : D.eqv (.lst []) (.lst []) = true := rfl
theorem eqv_lst_nc (y : D) (ys : List D) : D.eqv (.lst []) (.lst (y :: ys)) = false := rfl
theorem eqv_lst_cn (y : D) (ys : List D) : D.eqv (.lst (y :: ys)) (.lst []) = false := rfl
theorem eqv_tup (xs ys : List D) : D.eqv (.tup xs) (.tup ys) = D.eqv (.lst xs) (.lst ys) := rfl
/-- equal, as the lists that they were made of -/
theorem eqv_map {α : Type} (g : α → D) (hg : ∀ a b, D.eqv (g a) (g b) = true ↔ a = b) : ∀ xs ys : List α, D.eqv (.lst (xs.map g)) (.lst (ys.map g)) = true ↔ xs = ys
  | [], [] => ⟨fun _ => rfl, fun _ => rfl⟩
  | x :: xs, [] => ⟨(fun h => nomatch (show false = true from h)), (fun h => nomatch h)⟩
  | [], y :: ys => ⟨(fun h => nomatch (show false = true from h)), (fun h => nomatch h)⟩
  | x :: xs, y :: ys => by
    rw [List.map_cons, List.map_cons, eqv_lst_cons, Bool.and_eq_true, hg x y, eqv_map g hg xs ys, List.cons.injEq]
theorem wishS_inj {a b : Bool} (h : wishS a = wishS b) : a = b := by
  have := wishS_read a
  rw [h, wishS_read b] at this
  exact this.symm
theorem eqv_eW (a b : Wt) : D.eqv (eW a) (eW b) = true ↔ a = b := by
  unfold eW
  rw [eqv_tup, eqv_lst_cons, eqv_lst_cons, eqv_lst_cons, eqv_str, eqv_str, eqv_int, eqv_lst_nil]
  cases a with | mk a1 a2 a3 => cases b with | mk b1 b2 b3 =>
  simp only [Bool.and_eq_true, decide_eq_true_eq, Wt.mk.injEq, and_true]
  exact ⟨fun ⟨h1, h2, h3⟩ => ⟨h1, wishS_inj h2, h3⟩, fun ⟨h1, h2, h3⟩ => ⟨h1, by rw [h2], h3⟩⟩
theorem eqv_eLine (a b : List Wt) : D.eqv (.lst (eLine a)) (.lst (eLine b)) = true ↔ a = b := eqv_map eW eqv_eW a b
theorem flat_eLine (l : List Wt) : flatN 9 (.lst (eLine l)) = true := by
  rw [flatN_lst]
  exact flat_map _ _ (fun w => by unfold eW; rw [flatN_tup, flatL_cons, flatL_cons, flatL_cons, flatN_str, flatN_str, flatN_int, flatL_nil]; rfl) l
theorem flat_names (l : List Str) : flatN 9 (.lst (l.map .str)) = true := by
  rw [flatN_lst]
  exact flat_map _ _ (fun w => flatN_str _ _) l
theorem len_eLine (l : List Wt) : (eLine l).length = l.length := List.length_map _
theorem nth_eL {l : List Wt} {k : Nat} {w : Wt} (h : l[k]? = some w) : nth (eLine l) (k : Int) = some (eW w) := nth_eLine (by omega) (by rw [Int.toNat_natCast]; exact h)
theorem nth_mod {α : Type} (xs : List α) (x : Int) (n : Nat) (h : xs.length = n) (h0 : 0 < n) : ∃ d ∈ xs, nth xs (x % (n : Int)) = some d := by
  have h1 := Int.emod_nonneg x (show (n : Int) ≠ 0 by omega)
  have h2 := Int.emod_lt_of_pos x (show (0 : Int) < (n : Int) by omega)
  rw [nth_toNat _ h1]
  have : (x % (n : Int)).toNat < xs.length := by omega
  exact ⟨_, List.getElem_mem this, List.getElem?_eq_getElem this⟩
theorem nth_names {names : List Str} {k : Nat} (h : k < names.length) : ∃ z ∈ names, nth (names.map D.str) (k : Int) = some (.str z) := by
  rw [nth_nat, List.getElem?_map, List.getElem?_eq_getElem h]
  exact ⟨_, List.getElem_mem h, rfl⟩
theorem res_set_lst {M : Mem} {p : Addr} {ds : List D} : res (M.set p (.lst ds)) (.obj p) = .lst ds := res_obj Mem.set_same
-- SIMP res_set_lst Mem.set_same Mem.set_set
/-! names in lists of names -/
theorem inD_names (z : Str) (l : List Str) : inD (.str z) (l.map .str) = decide (z ∈ l) := by
  unfold inD
  induction l with
  | nil => rfl
  | cons y l ih =>
    rw [List.map_cons, List.any_cons, ih]
    show ((y == z) || decide (z ∈ l)) = decide (z ∈ y :: l)
    by_cases h : y = z
    · subst h; simp
    · rw [beq_eq_false_iff_ne.mpr h, Bool.false_or]
      by_cases h2 : z ∈ l
      · rw [decide_eq_true h2, decide_eq_true (List.mem_cons_of_mem _ h2)]
      · rw [decide_eq_false h2, decide_eq_false (fun hh => by
          rcases List.mem_cons.mp hh with e | e
          · exact h e.symm
          · exact h2 e)]
theorem flatD_names (l : List Str) : (l.map D.str).all flatD = true := by
  rw [List.all_map]
  exact List.all_eq_true.mpr fun _ _ => rfl
/-- the first word of a tuple -/
def fst : D → D
  | .tup (d :: _) => d
  | _ => .non
theorem fst_eLine (l : List Wt) : (eLine l).map fst = (l.map (·.name)).map .str := by
  unfold eLine
  rw [List.map_map, List.map_map]
  rfl
theorem len_le_of_subset {α : Type} [DecidableEq α] : ∀ {A B : List α}, A.Nodup → (∀ x ∈ A, x ∈ B) → A.length ≤ B.length
  | [], _, _, _ => Nat.zero_le _
  | x :: A, B, hn, hs => by
    have hx := hs x (List.mem_cons_self ..)
    have hn := List.nodup_cons.mp hn
    have := len_le_of_subset (A := A) (B := B.erase x) hn.2 fun y hy => by
      refine (List.mem_erase_of_ne ?_).mpr (hs y (List.mem_cons_of_mem _ hy))
      rintro rfl
      exact hn.1 hy
    rw [List.length_erase_of_mem hx] at this
    have := List.length_pos_of_mem hx
    rw [List.length_cons]
    omega
theorem fresh_of {α : Type} [DecidableEq α] {A B : List α} (hn : A.Nodup) (h : B.length < A.length) : ∃ x ∈ A, x ∉ B := by
  refine Classical.byContradiction fun hh => ?_
  have := len_le_of_subset hn (B := B) fun x hx => Classical.byContradiction fun hb => hh ⟨x, hx, hb⟩
  omega
/-- all signs are signs of names -/
def good (z : Str) : Prop := ∀ c ∈ z.cps.toList, c ∈ signsL
theorem good_cut {z : Str} (h : good z) (lo hi : Option Int) : good (cutS z lo hi) := fun c hc => h c (List.mem_of_mem_drop (List.mem_of_mem_take (by simpa [cutS] using hc)))
theorem app_list (a b : Str) : (a ++ b).cps.toList = a.cps.toList ++ b.cps.toList := by
  show (a.cps ++ b.cps).toList = _
  exact Array.toList_append
theorem good_app {a b : Str} (h : good a) (k : good b) : good (a ++ b) := fun c hc => by
  rw [app_list] at hc
  rcases List.mem_append.mp hc with q | q
  · exact h c q
  · exact k c q
theorem good_one (c : Int) : good ⟨#[signAt c]⟩ := fun x hx => by
  have : x = signAt c := by simpa using hx
  subst this
  exact signAt_mem c
theorem str_len (z : Str) : z.cps.toList.length = z.length := by
  rw [Array.length_toList]; rfl
theorem nameOk_of {z : Str} (h1 : 1 ≤ z.length) (h2 : z.length ≤ 12) (h : good z) : nameOk z = true := by
  unfold nameOk
  rw [decide_eq_true h1, decide_eq_true h2]
  simp only [Bool.true_and, List.all_eq_true]
  exact fun c hc => decide_eq_true (h c hc)
theorem nameOk_good {z : Str} (h : nameOk z = true) : good z ∧ 1 ≤ z.length ∧ z.length ≤ 12 := by
  unfold nameOk at h
  simp only [Bool.and_eq_true, decide_eq_true_eq, List.all_eq_true] at h
  exact ⟨fun c hc => h.2 c hc, h.1.1, h.1.2⟩
theorem cut_hi_len (z : Str) {k : Int} (h : 0 ≤ k) : (cutS z none (some k)).length = min k.toNat z.length := by
  obtain ⟨n, rfl⟩ := Int.eq_ofNat_of_zero_le h
  show (((z.cps.toList.drop (HT.sIx z.length 0 none)).take (HT.sIx z.length z.length (some (n : Int)) - HT.sIx z.length 0 none)).toArray).size = _
  rw [HT.sIx_none, HT.sIx_nat, List.size_toArray, List.length_take, List.length_drop, str_len]
  simp only [Int.toNat_natCast]
  omega
theorem cut_lo_len (z : Str) {k : Int} (h : 0 ≤ k) : (cutS z (some k) none).length = z.length - min k.toNat z.length := by
  obtain ⟨n, rfl⟩ := Int.eq_ofNat_of_zero_le h
  show (((z.cps.toList.drop (HT.sIx z.length 0 (some (n : Int)))).take (HT.sIx z.length z.length none - HT.sIx z.length 0 (some (n : Int)))).toArray).size = _
  rw [HT.sIx_none, HT.sIx_nat, List.size_toArray, List.length_take, List.length_drop, str_len]
  simp only [Int.toNat_natCast]
  omega
theorem num_good {n : Nat} (h : n < 100) : good (Str.ofString (toString (n : Int))) ∧ 1 ≤ (Str.ofString (toString (n : Int))).length ∧ (Str.ofString (toString (n : Int))).length ≤ 2 := by
  have e : (Str.ofString (toString ((n : Nat) : Int))).cps.toList = TL.numL n := TL.tl_num n
  have hl : (Str.ofString (toString ((n : Nat) : Int))).length = (TL.numL n).length := by rw [← e, str_len]
  refine ⟨fun c hc => ?_, ?_, ?_⟩
  · rw [e] at hc
    have hd := TL.numL_digits n c hc
    have all : ∀ d : Nat, d < 58 → 48 ≤ d → d ∈ signsL := by decide +kernel
    exact all c (by omega) hd.1
  · rw [hl]
    have := TL.numL_ne n
    cases q : TL.numL n with
    | nil => exact absurd q this
    | cons _ _ => simp
  · rw [hl]
    exact TL.numL_len (k := 2) (by decide) (by omega)
/-- a comprehension over a range -/
theorem lc_rangeD {i : Nat} {te : DE} {δ : DS} {M : Mem} {P : Mem → Prop} {Q : QD} {n : Nat} (g : Nat → D)
    (h2 : ∀ k, k < n → ∀ M', M.Sub M' → ∀ Qd : QD, Qd (g k) M' → te (δ.set i (some (.int (k : Int)))) M' Qd fun _ _ _ => False)
    (h : Q (.lst ((List.range n).map g)) M) (hP : ∀ M', M.Sub M' → P M' := by exact fun _ _ => trivial) : ∀ D0, M D0 = none → lcL D0 i dYes te δ P (fun M2 => frz (.obj D0) M2 Q) (rangeD 0 n) [] (M.set D0 (.lst [])) := by
  refine lc_map (fun x => match x with | .int j => g j.toNat | _ => .non) (fun x hx M' hs Qd q => ?_) ?_ hP
  · unfold rangeD at hx
    obtain ⟨k, hk, rfl⟩ := List.mem_map.mp hx
    have hk := List.mem_range.mp hk
    have e : (0 : Int) + (k : Int) = (k : Int) := Int.zero_add _
    rw [e] at q ⊢
    exact h2 k hk M' hs Qd q
  · unfold rangeD
    rw [List.map_map]
    have : ((fun x => match x with | D.int j => g j.toNat | _ => .non) ∘ fun i : Nat => D.int (0 + (i : Int))) = g := by
      funext k
      show g ((0 : Int) + (k : Int)).toNat = g k
      congr 1
      omega
    rw [this]
    exact h
theorem Vw.eqS {d e : D} {ds es : List D} {M M' : Mem} (h : Vw d ds M) (k : Vw e es M') : DL.eqS d e = none := by
  rcases h with rfl | ⟨a, rfl, h⟩ <;> rcases k with rfl | ⟨b, rfl, k⟩ <;> rfl
theorem filter_no {α : Type} (xs : List α) : xs.filter (fun _ => false) = [] := by
  rw [List.filter_eq_nil_iff]
  intro _ _ h
  cases h
theorem Vw.items {d : D} {ds : List D} {M : Mem} (h : Vw d ds M) {F : List D → (Mem → Prop) → Prop} (k : ∀ P : Mem → Prop, (∀ M', M.Sub M' → P M') → F ds P) : itemsOf d M F := by
  rcases h with rfl | ⟨a, rfl, h⟩
  · exact k _ fun _ _ => trivial
  · rw [itemsOf_obj, h]
    exact k _ fun M' s => s a _ h
/-! rows of journals -/
inductive Rw where
  | came (z : Str) (rd : Bool)
  | begins (z : Str) (rd : Bool)
  | left (z : Str)
  | asked (z : Str)
  | eased (z : Str)
namespace Rw
def name : Rw → Str
  | came z _ => z
  | begins z _ => z
  | left z => z
  | asked z => z
  | eased z => z
def words : Rw → List Str
  | came z b => [Str.ofString "came", z, wishS b]
  | begins z b => [Str.ofString "begins", z, wishS b]
  | left z => [Str.ofString "left", z]
  | asked z => [Str.ofString "asked", z]
  | eased z => [Str.ofString "eased", z]
end Rw
def eR (r : Rw) : D := .tup (r.words.map .str)
def eRows (l : List Rw) : List D := l.map eR
theorem words_inj {a b : Rw} (h : a.words = b.words) : a = b := by
  cases a <;> cases b <;> simp only [Rw.words, List.cons.injEq, and_true, and_false, reduceCtorEq] at h
  all_goals first
    | exact absurd h.1 (by decide +kernel)
    | (obtain ⟨_, rfl, h⟩ := h; rw [wishS_inj h])
    | (obtain ⟨_, rfl⟩ := h; rfl)
theorem eqv_strs (a b : List Str) : D.eqv (.lst (a.map .str)) (.lst (b.map .str)) = true ↔ a = b := eqv_map .str (fun x y => by rw [eqv_str, decide_eq_true_iff]) a b
theorem eqv_eR (a b : Rw) : D.eqv (eR a) (eR b) = true ↔ a = b := by
  unfold eR
  rw [eqv_tup, eqv_strs]
  exact ⟨words_inj, fun h => by rw [h]⟩
theorem eqv_eRows (a b : List Rw) : D.eqv (.lst (eRows a)) (.lst (eRows b)) = true ↔ a = b := eqv_map eR eqv_eR a b
theorem flat_strs (n : Nat) (l : List Str) : flatL n (l.map .str) = true := flat_map _ _ (fun w => flatN_str _ _) l
theorem flat_eRows (l : List Rw) : flatN 9 (.lst (eRows l)) = true := by
  rw [flatN_lst]
  exact flat_map _ _ (fun r => by unfold eR; rw [flatN_tup]; exact flat_strs _ _) l
theorem len_eRows (l : List Rw) : (eRows l).length = l.length := List.length_map _
theorem eRows_app (a b : List Rw) : eRows (a ++ b) = eRows a ++ eRows b := List.map_append
/-! plain signs -/
def plain (z : Str) : Prop := ∀ c ∈ z.cps.toList, c < 256
theorem good_plain {z : Str} (h : good z) : plain z := fun c hc => by
  have all : ∀ d ∈ signsL, d < 256 := by decide +kernel
  exact all c (h c hc)
theorem plain_app {a b : Str} (h : plain a) (k : plain b) : plain (a ++ b) := fun c hc => by
  rw [app_list] at hc
  rcases List.mem_append.mp hc with q | q
  · exact h c q
  · exact k c q
theorem strOk_plain {z : Str} (h : plain z) (k : z.length ≤ sizeLine) : strOk z = true := strOk_iff.mpr ⟨fun c hc => by have := h c hc; omega, k⟩
theorem mem_joinL {S : List Nat} {c : Nat} : ∀ {ps : List (List Nat)}, c ∈ TL.joinL S ps → c ∈ S ∨ ∃ p ∈ ps, c ∈ p
  | [], h => by cases h
  | [p], h => .inr ⟨p, List.mem_singleton.mpr rfl, h⟩
  | p :: q :: r, h => by
    have h : c ∈ p ++ (S ++ TL.joinL S (q :: r)) := h
    rcases List.mem_append.mp h with h | h
    · exact .inr ⟨p, List.mem_cons_self .., h⟩
    · rcases List.mem_append.mp h with h | h
      · exact .inl h
      · rcases mem_joinL h with h | ⟨x, hx, h⟩
        · exact .inl h
        · exact .inr ⟨x, List.mem_cons_of_mem _ hx, h⟩
theorem tl_joinT (y : Str) (parts : List Str) : (Txt.join y parts).cps.toList = TL.joinL y.cps.toList (parts.map fun z => z.cps.toList) := by
  rw [TL.join_eq]
  exact TL.tl_join y parts
theorem plain_join {y : Str} {ps : List Str} (hy : plain y) (h : ∀ p ∈ ps, plain p) : plain (Txt.join y ps) := fun c hc => by
  rw [tl_joinT] at hc
  rcases mem_joinL hc with q | ⟨p, hp, q⟩
  · exact hy c q
  · obtain ⟨z, hz, rfl⟩ := List.mem_map.mp hp
    exact h z hz c q
theorem join_len (y : Str) (ps : List Str) : (Txt.join y ps).length ≤ (ps.map (·.length)).sum + ps.length * y.length := by
  rw [TL.join_eq]
  exact StrLaws.join_length_le y ps
/-! the texts of rows -/
def sp : Str := Str.ofString " "
def nl : Str := Str.ofString "\n"
theorem sp_tl : TL.tl sp = [32] := by decide +kernel
theorem nl_tl : TL.tl nl = [10] := by decide +kernel
theorem sp_len : sp.length = 1 := by decide +kernel
theorem nl_len : nl.length = 1 := by decide +kernel
theorem plain_lit : plain sp ∧ plain nl ∧ plain (Str.ofString "came") ∧ plain (Str.ofString "begins") ∧ plain (Str.ofString "left") ∧ plain (Str.ofString "asked") ∧ plain (Str.ofString "eased") ∧ plain (wishS true) ∧ plain (wishS false) ∧ plain (Str.ofString "") := by
  unfold plain
  decide +kernel
/-- no blank, no line end, not long, plain -/
def wordy (z : Str) : Prop := plain z ∧ 32 ∉ z.cps.toList ∧ 10 ∉ z.cps.toList ∧ z.length ≤ 12
theorem wordy_lit : wordy (Str.ofString "came") ∧ wordy (Str.ofString "begins") ∧ wordy (Str.ofString "left") ∧ wordy (Str.ofString "asked") ∧ wordy (Str.ofString "eased") ∧ wordy (wishS true) ∧ wordy (wishS false) := by
  unfold wordy plain
  decide +kernel
theorem wordy_name {z : Str} (h : nameOk z = true) : wordy z := by
  obtain ⟨h1, h2, h3⟩ := nameOk_good h
  have n1 : (32 : Nat) ∉ signsL := by decide +kernel
  have n2 : (10 : Nat) ∉ signsL := by decide +kernel
  exact ⟨good_plain h1, fun q => n1 (h1 _ q), fun q => n2 (h1 _ q), h3⟩
theorem wordy_words {r : Rw} (h : nameOk r.name = true) : (∀ z ∈ r.words, wordy z) ∧ r.words ≠ [] ∧ r.words.length ≤ 3 := by
  have hz := wordy_name h
  obtain ⟨l1, l2, l3, l4, l5, l6, l7⟩ := wordy_lit
  have hw : ∀ b, wordy (wishS b) := fun b => match b with | true => l6 | false => l7
  cases r <;> refine ⟨fun z hm => ?_, by simp [Rw.words], by simp [Rw.words]⟩ <;> simp only [Rw.words, List.mem_cons, List.not_mem_nil, or_false] at hm
  · rcases hm with rfl | rfl | rfl
    · exact l1
    · exact hz
    · exact hw _
  · rcases hm with rfl | rfl | rfl
    · exact l2
    · exact hz
    · exact hw _
  · rcases hm with rfl | rfl
    · exact l3
    · exact hz
  · rcases hm with rfl | rfl
    · exact l4
    · exact hz
  · rcases hm with rfl | rfl
    · exact l5
    · exact hz
def bodyOf (r : Rw) : Str := Txt.join sp r.words
def lineOf (r : Rw) : Str := bodyOf r ++ nl
def textOf (l : List Rw) : Str := Txt.join (Str.ofString "") (l.map lineOf)
theorem sum_le {l : List Str} {k : Nat} (h : ∀ z ∈ l, z.length ≤ k) : (l.map (·.length)).sum ≤ l.length * k := by
  induction l with
  | nil => simp
  | cons z l ih =>
    rw [List.map_cons, List.sum_cons, List.length_cons, Nat.succ_mul]
    have := h z (List.mem_cons_self ..)
    have := ih fun z hz => h z (List.mem_cons_of_mem _ hz)
    omega
theorem words_size {r : Rw} (h : nameOk r.name = true) : (r.words.map (·.length)).sum + r.words.length * sp.length ≤ 39 := by
  obtain ⟨h1, _, h3⟩ := wordy_words h
  have := sum_le (k := 12) fun z hz => (h1 z hz).2.2.2
  rw [sp_len]
  omega
theorem body_len {r : Rw} (h : nameOk r.name = true) : (bodyOf r).length ≤ 39 := Nat.le_trans (join_len _ _) (words_size h)
theorem body_plain {r : Rw} (h : nameOk r.name = true) : plain (bodyOf r) := plain_join plain_lit.1 fun z hz => ((wordy_words h).1 z hz).1
theorem line_len {r : Rw} (h : nameOk r.name = true) : (lineOf r).length ≤ 40 := by
  unfold lineOf
  rw [len_append, nl_len]
  have := body_len h
  omega
theorem line_plain {r : Rw} (h : nameOk r.name = true) : plain (lineOf r) := plain_app (body_plain h) plain_lit.2.1
theorem lines_size {l : List Rw} (h : ∀ r ∈ l, nameOk r.name = true) : ((l.map lineOf).map (·.length)).sum + (l.map lineOf).length * (Str.ofString "").length ≤ l.length * 40 := by
  have e : (Str.ofString "").length = 0 := by decide +kernel
  rw [e]
  have := sum_le (l := l.map lineOf) (k := 40) fun z hz => by
    obtain ⟨r, hr, rfl⟩ := List.mem_map.mp hz
    exact line_len (h r hr)
  rw [List.length_map] at this
  omega
theorem text_len {l : List Rw} (h : ∀ r ∈ l, nameOk r.name = true) : (textOf l).length ≤ l.length * 40 := Nat.le_trans (join_len _ _) (lines_size h)
theorem text_plain {l : List Rw} (h : ∀ r ∈ l, nameOk r.name = true) : plain (textOf l) := plain_join plain_lit.2.2.2.2.2.2.2.2.2 fun z hz => by
  obtain ⟨r, hr, rfl⟩ := List.mem_map.mp hz
  exact line_plain (h r hr)
theorem joinL_nil : ∀ ps : List (List Nat), TL.joinL [] ps = ps.flatten
  | [] => rfl
  | [p] => by simp [TL.joinL]
  | p :: q :: r => by
    show p ++ ([] ++ TL.joinL [] (q :: r)) = _
    rw [List.nil_append, joinL_nil (q :: r)]
    rfl
theorem text_tl (l : List Rw) : (textOf l).cps.toList = (l.map fun r => (lineOf r).cps.toList).flatten := by
  unfold textOf
  rw [tl_joinT, List.map_map]
  have : (Str.ofString "").cps.toList = [] := by decide +kernel
  rw [this, joinL_nil]
  rfl
theorem text_nil : textOf [] = Str.ofString "" := by
  refine TL.ext_tl ?_
  show (textOf []).cps.toList = _
  rw [text_tl]
  decide +kernel
theorem text_app (l : List Rw) (r : Rw) : textOf (l ++ [r]) = textOf l ++ lineOf r := by
  refine TL.ext_tl ?_
  show (textOf (l ++ [r])).cps.toList = (textOf l ++ lineOf r).cps.toList
  rw [text_tl, app_list, text_tl, List.map_append, List.flatten_append]
  simp
theorem split_body {r : Rw} (h : nameOk r.name = true) : Txt.split (bodyOf r) sp = r.words :=
  TL.split_join (s := 32) (S := []) sp_tl (by decide +kernel) (wordy_words h).2.1 fun p hp => ((wordy_words h).1 p hp).2.1
theorem joinL_ends : ∀ ps : List (List Nat), TL.joinL [10] (ps ++ [[]]) = (ps.map fun p => p ++ [10]).flatten
  | [] => rfl
  | [p] => by simp [TL.joinL]
  | p :: q :: r => by
    show p ++ ([10] ++ TL.joinL [10] (q :: (r ++ [[]]))) = _
    rw [show q :: (r ++ [[]]) = (q :: r) ++ [[]] from rfl, joinL_ends (q :: r), ← List.append_assoc]
    rfl
theorem body_no_nl {r : Rw} (h : nameOk r.name = true) : 10 ∉ (bodyOf r).cps.toList := fun hm => by
  unfold bodyOf at hm
  rw [tl_joinT] at hm
  rcases mem_joinL hm with q | ⟨p, hp, q⟩
  · have : (10 : Nat) ∉ sp.cps.toList := by decide +kernel
    exact this q
  · obtain ⟨z, hz, rfl⟩ := List.mem_map.mp hp
    exact ((wordy_words h).1 z hz).2.2.1 q
theorem split_text {l : List Rw} (h : ∀ r ∈ l, nameOk r.name = true) : Txt.split (textOf l) nl = l.map bodyOf ++ [Str.ofString ""] := by
  have e : textOf l = Txt.join nl (l.map bodyOf ++ [Str.ofString ""]) := by
    refine TL.ext_tl ?_
    show (textOf l).cps.toList = _
    rw [text_tl]
    show _ = (Txt.join nl _).cps.toList
    rw [tl_joinT, List.map_append, List.map_map]
    have e1 : nl.cps.toList = [10] := nl_tl
    have e2 : ([Str.ofString ""].map fun z => z.cps.toList) = [[]] := by decide +kernel
    rw [e1, e2, joinL_ends, List.map_map]
    congr 1
    refine List.map_congr_left fun r hr => ?_
    show (bodyOf r ++ nl).cps.toList = (bodyOf r).cps.toList ++ [10]
    rw [app_list, e1]
  rw [e]
  refine TL.split_join (s := 10) (S := []) nl_tl (by decide +kernel) (by simp) fun p hp => ?_
  rcases List.mem_append.mp hp with q | q
  · obtain ⟨r, hr, rfl⟩ := List.mem_map.mp q
    exact body_no_nl (h r hr)
  · rw [List.mem_singleton.mp q]
    decide +kernel
theorem dcut_take {α : Type} (xs : List α) (k : Nat) : dcut xs none (some (k : Int)) = xs.take k := by
  unfold dcut
  rw [HT.sIx_none, HT.sIx_nat, List.drop_zero, Nat.sub_zero]
  by_cases h : k ≤ xs.length
  · rw [Nat.min_eq_left h]
  · rw [Nat.min_eq_right (by omega), List.take_of_length_le (Nat.le_refl _), List.take_of_length_le (by omega)]
theorem dcut_drop {α : Type} (xs : List α) (k : Nat) : dcut xs (some ((k : Int) + 1)) none = xs.drop (k + 1) := by
  unfold dcut
  have e : ((k : Int) + 1) = ((k + 1 : Nat) : Int) := by omega
  rw [HT.sIx_none, e, HT.sIx_nat]
  by_cases h : k + 1 ≤ xs.length
  · rw [Nat.min_eq_left h, List.take_of_length_le (by rw [List.length_drop]; omega)]
  · rw [Nat.min_eq_right (by omega), List.drop_of_length_le (Nat.le_refl _), List.drop_of_length_le (by omega), List.take_nil]
theorem take_eLine (l : List Wt) (k : Nat) : (eLine l).take k = eLine (l.take k) := List.map_take.symm
theorem drop_eLine (l : List Wt) (k : Nat) : (eLine l).drop k = eLine (l.drop k) := List.map_drop.symm
theorem eLine_app (a b : List Wt) : eLine (a ++ b) = eLine a ++ eLine b := List.map_append
theorem set_none {M : Mem} {a p : Addr} {o : MO} (h : M.set a o p = none) : M p = none := by
  by_cases e : p = a
  · subst e
    rw [Mem.set_same] at h
    cases h
  · rw [Mem.set_ne e] at h
    exact h

local macro_rules | `(tactic| walk_at "dl") => `(tactic| try simp -implicitDefEqProofs only [DL.dNext, DL.dSeq, DL.dExpr, DL.dRet, DL.dIfS, DL.dSet, DL.dCont, DL.dRaise, DL.dFor, DL.dgName, DL.dgPair, DL.dTry, DL.dFn, DL.dMth, DL.dMk, DL.dFld, DL.dFldS, DL.dPut, DL.dVar, DL.slot, DL.dC, DL.dOp, DL.dUn, DL.oSub, DL.oMul, DL.oDiv, DL.oMod, DL.oPow, DL.oLt, DL.oLe, DL.oGt, DL.oGe, DL.oEq, DL.oNe, DL.oIn, DL.oNotIn, DL.dB, DL.dIsN, DL.dChain, DL.dAnd, DL.dOr, DL.dNot, DL.dAndV, DL.dOrV, DL.dNotV, DL.dIf, DL.dNil, DL.dCons, DL.few, DL.dLst, DL.dTup, DL.dLstM, DL.dFrz, DL.dPairs, DL.dDisp, DL.dDic0, DL.dSl, DL.dNoPart, DL.dCall, DL.dMet0L, DL.dMet, DL.dItems, DL.dRange1, DL.dEnum, DL.dLcM, DL.dwipe, DL.startD, DL.dNever, DL.el_some, DL.elL_lst, DL.elD_dic, DL.elI_ins, DL.res_non, DL.res_bl, DL.res_int, DL.res_str, DL.res_lst, DL.res_tupE, DL.res_dic, DL.res_scr, DL.res_ty, DL.oAdd_eq, DL.addR_int, DL.addR_str, DL.addR_lst, DL.addR_tup, DL.oAddM_eq, DL.addMR_lst, DL.oInt_eq, DL.intR_int, DL.oInt0_eq, DL.int0R_int, DL.oNeg_eq, DL.negR_int, DL.oEqN_eq, DL.eqR_some, DL.eqR_none, DL.eqS_non_non, DL.eqS_non_int, DL.eqS_non_bl, DL.eqS_non_str, DL.eqS_non_lst, DL.eqS_non_tup, DL.eqS_int_non, DL.eqS_int_int, DL.eqS_int_bl, DL.eqS_int_str, DL.eqS_int_lst, DL.eqS_int_tup, DL.eqS_bl_non, DL.eqS_bl_int, DL.eqS_bl_bl, DL.eqS_bl_str, DL.eqS_bl_lst, DL.eqS_bl_tup, DL.eqS_str_non, DL.eqS_str_int, DL.eqS_str_bl, DL.eqS_str_str, DL.eqS_str_lst, DL.eqS_str_tup, DL.eqS_lst_non, DL.eqS_lst_int, DL.eqS_lst_bl, DL.eqS_lst_str, DL.eqS_lst_lst, DL.eqS_lst_tup, DL.eqS_tup_non, DL.eqS_tup_int, DL.eqS_tup_bl, DL.eqS_tup_str, DL.eqS_tup_lst, DL.eqS_tup_tup, DL.eqS_obj_non, DL.eqS_non_obj, DL.eqS_obj_int, DL.eqS_int_obj, DL.eqS_obj_bl, DL.eqS_bl_obj, DL.eqS_obj_str, DL.eqS_str_obj, DL.eqS_obj_lst, DL.eqS_lst_obj, DL.eqS_obj_tup, DL.eqS_tup_obj, DL.eqS_obj_obj, DL.oInN_eq, DL.inR_lst, DL.inR_tup, DL.inR_str, DL.flatD_non, DL.flatD_bl, DL.flatD_int, DL.flatD_str, DL.asB_bl, DL.isN_non, DL.isN_bl, DL.isN_int, DL.isN_str, DL.isN_lst, DL.isN_tup, DL.isN_dic, DL.isN_scr, DL.isN_ty, DL.isN_obj, DL.frz_non, DL.frz_bl, DL.frz_int, DL.frz_str, DL.frz_lst, DL.frz_tup, DL.frz_dic, DL.frz_scr, DL.frz_ty, DL.oIx_eq, DL.ixR_lst, DL.ixR_tup, DL.ixR_scr, DL.ixR_str, DL.ixR_dic, DL.nth_0, DL.nth_1, DL.nth_2, DL.nth_3, DL.oSl_eq, DL.slR_lst, DL.slR_tup, DL.slR_str, DL.dPart_eq, DL.partR_int, DL.on1_cons, DL.on2_cons, DL.lenD_lst, DL.lenD_tup, DL.lenD_scr, DL.lenD_str, DL.intD_int, DL.intD_bl, DL.strD_int, DL.int2_int, DL.listM_lst, DL.listF_lst, DL.listM_tup, DL.listF_tup, DL.dictM_dic, DL.isiD_ty, DL.oAppend_obj, DL.oInsert_obj, DL.oPop_obj, DL.oPopAt_obj, DL.isLst_eq, DL.isLstR_lst, DL.isStr_str, DL.oSplit_str, DL.oJoin_str, DL.itemsOf_lst, DL.itemsOf_tup, DL.itemsOf_str, DL.rng1_int, DL.enumOf_lst, DL.two_tup, DL.insIs_obj, DL.getFld_obj, DL.setFld_obj, DL.putDic_obj, DL.isB_str_non, DL.isB_str_bl, DL.isB_str_int, DL.isB_str_str, DL.isB_str_lst, DL.isB_str_tup, DL.isB_str_dic, DL.isB_int_non, DL.isB_int_bl, DL.isB_int_int, DL.isB_int_str, DL.isB_int_lst, DL.isB_int_tup, DL.isB_int_dic, DL.isB_bool_non, DL.isB_bool_bl, DL.isB_bool_int, DL.isB_bool_str, DL.isB_bool_lst, DL.isB_bool_tup, DL.isB_bool_dic, DL.isB_list_non, DL.isB_list_bl, DL.isB_list_int, DL.isB_list_str, DL.isB_list_lst, DL.isB_list_tup, DL.isB_list_dic, DL.isB_tuple_non, DL.isB_tuple_bl, DL.isB_tuple_int, DL.isB_tuple_str, DL.isB_tuple_lst, DL.isB_tuple_tup, DL.isB_tuple_dic, Bool.cond_true, Bool.cond_false, L2.CDiv, Int.reduceLT, Int.reduceLE, true_and, and_true, cond_true, cond_false, List.map_cons, List.map_nil, List.set_cons_zero, List.set_cons_succ, List.set_nil, DL.cpow_109, DL.pow_109, DL.frz_set_lst, DL.frz_set_dic, Bool.not_true, Bool.not_false, DL.itemsOf_obj, DL.enumOf_obj, DL.all_still, okD_non, okD_bl, okD_int, okD_str, okD_lst, okD_tup, okD_dic, res_set_lst, Mem.set_same, Mem.set_set])
/-! the room -/
structure Rm where
  seats : Int
  patience : Int
  reading : List Str
  alone : Option Str
  asking : Option Str
  waiting : List Wt
  rows : List Rw
def optS : Option Str → D
  | none => .non
  | some z => .str z
def eNames (l : List Str) : D := .lst (l.map .str)
def flds (r : Rm) : List (Str × D) := [("seats", .int r.seats), ("patience", .int r.patience), ("reading", eNames r.reading), ("alone", optS r.alone), ("asking", optS r.asking), ("waiting", .lst (eLine r.waiting)), ("rows", .lst (eRows r.rows))]
local macro_rules | `(tactic| walk_at "lk") => `(tactic| ((try unfold flds); repeat (first | rfl | rw [look, if_neg (by decide +kernel)] | rw [look, if_pos rfl] | rw [dput, if_neg (by decide +kernel)] | rw [dput, if_pos rfl])))
theorem lk_seats (r : Rm) : look (flds r) "seats" = some (.int r.seats) := by walk_at "lk"
theorem lk_patience (r : Rm) : look (flds r) "patience" = some (.int r.patience) := by walk_at "lk"
theorem lk_reading (r : Rm) : look (flds r) "reading" = some (eNames r.reading) := by walk_at "lk"
theorem lk_alone (r : Rm) : look (flds r) "alone" = some (optS r.alone) := by walk_at "lk"
theorem lk_asking (r : Rm) : look (flds r) "asking" = some (optS r.asking) := by walk_at "lk"
theorem lk_waiting (r : Rm) : look (flds r) "waiting" = some (.lst (eLine r.waiting)) := by walk_at "lk"
theorem lk_rows (r : Rm) : look (flds r) "rows" = some (.lst (eRows r.rows)) := by walk_at "lk"
theorem no_is_inside (r : Rm) : (look (flds r) "is_inside" = none) = True := eq_true (by walk_at "lk")
theorem no_is_waiting (r : Rm) : (look (flds r) "is_waiting" = none) = True := eq_true (by walk_at "lk")
theorem no_look (r : Rm) : (look (flds r) "look" = none) = True := eq_true (by walk_at "lk")
theorem no_come (r : Rm) : (look (flds r) "come" = none) = True := eq_true (by walk_at "lk")
theorem no_leave (r : Rm) : (look (flds r) "leave" = none) = True := eq_true (by walk_at "lk")
theorem no_ask (r : Rm) : (look (flds r) "ask" = none) = True := eq_true (by walk_at "lk")
theorem no_ease (r : Rm) : (look (flds r) "ease" = none) = True := eq_true (by walk_at "lk")
theorem no_settled (r : Rm) : (look (flds r) "settled" = none) = True := eq_true (by walk_at "lk")
theorem no_begun (r : Rm) : (look (flds r) "begun" = none) = True := eq_true (by walk_at "lk")
theorem no_readers (r : Rm) : (look (flds r) "readers" = none) = True := eq_true (by walk_at "lk")
theorem no_writer (r : Rm) : (look (flds r) "writer" = none) = True := eq_true (by walk_at "lk")
theorem no_asker (r : Rm) : (look (flds r) "asker" = none) = True := eq_true (by walk_at "lk")
theorem no_line (r : Rm) : (look (flds r) "line" = none) = True := eq_true (by walk_at "lk")
theorem no_passed (r : Rm) : (look (flds r) "passed" = none) = True := eq_true (by walk_at "lk")
theorem no_journal (r : Rm) : (look (flds r) "journal" = none) = True := eq_true (by walk_at "lk")
theorem dp_reading (r : Rm) (l : List Str) : dput (flds r) "reading" (.lst (l.map .str)) = flds { r with reading := l } := by walk_at "lk"
theorem dp_reading0 (r : Rm) : dput (flds r) "reading" (.lst []) = flds { r with reading := [] } := by walk_at "lk"
theorem dp_reading1 (r : Rm) (z : Str) : dput (flds r) "reading" (.lst [.str z]) = flds { r with reading := [z] } := by walk_at "lk"
theorem dp_alone (r : Rm) (z : Str) : dput (flds r) "alone" (.str z) = flds { r with alone := some z } := by walk_at "lk"
theorem dp_alone0 (r : Rm) : dput (flds r) "alone" .non = flds { r with alone := none } := by walk_at "lk"
theorem dp_asking (r : Rm) (z : Str) : dput (flds r) "asking" (.str z) = flds { r with asking := some z } := by walk_at "lk"
theorem dp_asking0 (r : Rm) : dput (flds r) "asking" .non = flds { r with asking := none } := by walk_at "lk"
theorem dp_waiting (r : Rm) (l : List Wt) : dput (flds r) "waiting" (.lst (eLine l)) = flds { r with waiting := l } := by walk_at "lk"
theorem dp_rows (r : Rm) (l : List Rw) : dput (flds r) "rows" (.lst (eRows l)) = flds { r with rows := l } := by walk_at "lk"
theorem few_flds (r : Rm) : few 99 ((flds r).map (·.2)) = True := eq_true (by unfold flds; simp only [List.map_cons, List.map_nil, few])
-- SIMP lk_seats lk_patience lk_reading lk_alone lk_asking lk_waiting lk_rows no_is_inside no_is_waiting no_look no_come no_leave no_ask no_ease no_settled no_begun no_readers no_writer no_asker no_line no_passed no_journal dp_reading dp_reading0 dp_reading1 dp_alone dp_alone0 dp_asking dp_asking0 dp_waiting dp_rows few_flds eNames
def At (A : Adr) (M : Mem) (a : Addr) (r : Rm) : Prop := M a = some (.ins A.Room (flds r))
theorem isN_optS (o : Option Str) : isN (optS o) = o.isNone := by cases o <;> rfl
theorem res_optS {M : Mem} (o : Option Str) : res M (optS o) = optS o := by cases o <;> rfl
theorem optS_some (z : Str) : optS (some z) = .str z := rfl
theorem optS_none : optS none = .non := rfl
-- SIMP isN_optS res_optS optS_some optS_none Option.isNone_none Option.isNone_some
/-- one passed once more -/
def bump (w : Wt) : Wt := { w with n := w.n + 1 }
def insideB (r : Rm) (z : Str) : Bool := decide (z ∈ r.reading) || decide (r.alone = some z)
def waitsB (r : Rm) (z : Str) : Bool := decide (z ∈ r.waiting.map (·.name))
/-- one more begins -/
def begun (r : Rm) : Option ((Str × Bool) × Rm) :=
  match r.asking with
  | some z => if 1 < r.reading.length then none else some ((z, false), { r with alone := some z, asking := none, reading := [] })
  | none => match nextPlace r.waiting r.seats r.patience r.reading.length r.alone.isSome with
    | none => none
    | some k => match r.waiting[k]? with
      | none => none
      | some w => some ((w.name, w.rd), { r with reading := cond w.rd (r.reading ++ [w.name]) r.reading, alone := cond w.rd r.alone (some w.name), waiting := (r.waiting.take k).map bump ++ r.waiting.drop (k + 1) })
def newRm (s p : Int) : Rm := ⟨s, p, [], none, none, [], []⟩
def logB (r : Rm) (p : Str × Bool) : Rm := { r with rows := r.rows ++ [.begins p.1 p.2] }
def logR (r : Rm) (x : Rw) : Rm := { r with rows := r.rows ++ [x] }
/-- how many can begin at most -/
def meas (r : Rm) : Nat := r.waiting.length + cond r.asking.isSome 1 0
/-- all who can begin, begin -/
def settle : Nat → Rm → List (Str × Bool) × Rm
  | 0, r => ([], r)
  | n + 1, r => match begun r with
    | none => ([], r)
    | some (p, r1) => (p :: (settle n (logB r1 p)).1, (settle n (logB r1 p)).2)
def eP (p : Str × Bool) : D := .tup [.str p.1, .str (wishS p.2)]
def ePs (l : List (Str × Bool)) : List D := l.map eP
theorem flat_ePs (l : List (Str × Bool)) : flatN 9 (.lst (ePs l)) = true := by
  rw [flatN_lst]
  exact flat_map _ _ (fun w => by unfold eP; rw [flatN_tup, flatL_cons, flatL_cons, flatN_str, flatN_str, flatL_nil]; rfl) l
def optP : Option (Str × Bool) → D
  | none => .non
  | some p => eP p
/-- a room's weight: what its lists hold and may hold -/
def wgt (r : Rm) : Nat := r.rows.length + r.reading.length + 2 * r.waiting.length + cond r.asking.isSome 2 0
theorem firstReader_lt {l : List Wt} {k : Nat} (h : firstReader l = some k) : k < l.length := by
  unfold firstReader at h
  rw [List.findIdx?_eq_some_iff_getElem] at h
  exact h.1
theorem nextPlace_lt {l : List Wt} {s p r : Int} {w : Bool} {k : Nat} (h : nextPlace l s p r w = some k) : k < l.length := by
  unfold nextPlace at h
  cases l with
  | nil => cases h
  | cons x l =>
    simp only at h
    split at h
    · cases h; exact Nat.zero_lt_succ _
    · split at h
      · cases h
      · cases hf : firstReader (x :: l) with
        | none => rw [hf] at h; cases h
        | some j =>
          rw [hf] at h
          simp only at h
          split at h
          · cases h
          · split at h
            · cases h
            · cases h; exact firstReader_lt hf
theorem begun_spec {r : Rm} {p : Str × Bool} {r1 : Rm} (h : begun r = some (p, r1)) : meas r1 + 1 = meas r ∧ wgt (logB r1 p) ≤ wgt r ∧ r1.rows = r.rows := by
  unfold begun at h
  cases ha : r.asking with
  | some z =>
    rw [ha] at h
    simp only at h
    split at h
    · cases h
    · cases h
      unfold meas wgt logB
      rw [ha]
      simp
      omega
  | none =>
    rw [ha] at h
    simp only at h
    cases hn : nextPlace r.waiting r.seats r.patience r.reading.length r.alone.isSome with
    | none => rw [hn] at h; cases h
    | some k =>
      rw [hn] at h
      simp only at h
      have hk := nextPlace_lt hn
      rw [List.getElem?_eq_getElem hk] at h
      simp only at h
      cases h
      unfold meas wgt logB
      simp only [ha, List.length_append, List.length_map, List.length_take, List.length_drop, Nat.min_eq_left (Nat.le_of_lt hk), List.length_singleton, Option.isSome_none, cond_false]
      refine ⟨by omega, ?_, trivial⟩
      cases (r.waiting[k]).rd <;> simp <;> omega
theorem meas_log (r : Rm) (p : Str × Bool) : meas (logB r p) = meas r := rfl
theorem begun_zero {r : Rm} (h : meas r = 0) : begun r = none := by
  cases hb : begun r with
  | none => rfl
  | some q => have := (begun_spec (p := q.1) (r1 := q.2) hb).1; omega
theorem settle_wgt : ∀ (n : Nat) (r : Rm), wgt (settle n r).2 ≤ wgt r
  | 0, r => Nat.le_refl _
  | n + 1, r => by
    unfold settle
    cases h : begun r with
    | none => exact Nat.le_refl _
    | some q =>
      obtain ⟨p, r1⟩ := q
      exact Nat.le_trans (settle_wgt n (logB r1 p)) (begun_spec h).2.1
def bumpD : D → D
  | .tup [a, b, .int n] => .tup [a, b, .int (n + 1)]
  | _ => .non
theorem bump_eLine (l : List Wt) : (eLine l).map bumpD = eLine (l.map bump) := by
  unfold eLine
  rw [List.map_map, List.map_map]
  exact List.map_congr_left fun w _ => rfl
theorem isName_str {d : D} (h : isName d = true) : ∃ z, d = .str z := by
  cases d <;> first | exact ⟨_, rfl⟩ | cases h
def hereB (r : Rm) : D → Bool
  | .str z => nameOk z && (insideB r z || waitsB r z)
  | _ => false
/-- refusals -/
inductive Rf where
  | name
  | wish
  | known
  | stranger
  | outside
  | reads
  | writes
  | asked
def Rf.at (A : Adr) : Rf → Addr
  | name => A.BadName
  | wish => A.BadWish
  | known => A.Known
  | stranger => A.Stranger
  | outside => A.Outside
  | reads => A.Reads
  | writes => A.Writes
  | asked => A.Asked
/-- what a refusal is of, or the room with who began -/
inductive Out where
  | no (C : Rf)
  | did (l : List (Str × Bool)) (r : Rm)
def doneBy (r : Rm) (x : Rw) : Out := .did (settle (meas r) (logR r x)).1 (settle (meas r) (logR r x)).2
def comeO (r : Rm) (n w : D) : Out :=
  if isName n = false then .no .name else if isWish w = false then .no .wish else
  match n with
  | .str z => if (insideB r z || waitsB r z) = true then .no .known else
    doneBy { r with waiting := r.waiting ++ [⟨z, (match w with | .str y => decide (y = Str.ofString "read") | _ => false), 0⟩] } (.came z (match w with | .str y => decide (y = Str.ofString "read") | _ => false))
  | _ => .no .name
/-- what a deed leaves behind -/
def outQ (A : Adr) (a : Addr) (o : Out) (M : Mem) (Q : QD) (X : Addr → Mem → Prop) : Prop := match o with
  | .no C => X (C.at A) M
  | .did l r => ∀ p, M p = none → Q (.obj p) ((M.set a (.ins A.Room (flds r))).set p (.lst (ePs l)))
theorem isWish_str {d : D} (h : isWish d = true) : ∃ b, d = .str (wishS b) := by
  cases d with
  | str z =>
    have h : (decide (z = Str.ofString "read") || decide (z = Str.ofString "write")) = true := h
    rcases Bool.or_eq_true_iff.mp h with q | q
    · exact ⟨true, by rw [wishS_t, of_decide_eq_true q]⟩
    · exact ⟨false, by rw [wishS_f, of_decide_eq_true q]⟩
  | _ => cases h
def goneR (r : Rm) (z : Str) : Rm := { r with reading := r.reading.filter (fun y => !decide (y = z)), waiting := r.waiting.filter (fun w => !decide (w.name = z)), alone := if r.alone = some z then none else r.alone, asking := if r.asking = some z then none else r.asking }
def leaveO (r : Rm) (n : D) : Out := if hereB r n = false then .no .stranger else match n with
  | .str z => doneBy (goneR r z) (.left z)
  | _ => .no .stranger
def askO (r : Rm) (n : D) : Out := if hereB r n = false then .no .stranger else match n with
  | .str z => if waitsB r z = true then .no .outside else if r.alone.isSome = true then .no .writes else if r.asking.isSome = true then .no .asked else doneBy { r with asking := some z } (.asked z)
  | _ => .no .stranger
def easeO (r : Rm) (n : D) : Out := if hereB r n = false then .no .stranger else match n with
  | .str z => if waitsB r z = true then .no .outside else if r.alone.isNone = true then .no .reads else doneBy { r with alone := none, reading := [z] } (.eased z)
  | _ => .no .stranger
theorem hereB_str {r : Rm} {d : D} (h : hereB r d = true) : ∃ z, d = .str z := by
  cases d <;> first | exact ⟨_, rfl⟩ | cases h
theorem bt_ne {b : Bool} (h : b = true) : ¬ b = false := by rw [h]; exact Bool.true_eq_false.mp
theorem bf_ne {b : Bool} (h : b = false) : ¬ b = true := by rw [h]; exact Bool.false_ne_true
/-! ### what always holds -/
def inNames (r : Rm) : List Str := r.reading ++ r.alone.toList
def wNames (r : Rm) : List Str := r.waiting.map (·.name)
structure Inv (r : Rm) : Prop where
  seats : 1 ≤ r.seats
  rds : (r.reading.length : Int) ≤ r.seats
  nd : (inNames r ++ wNames r).Nodup
  ok : ∀ z ∈ inNames r ++ wNames r, nameOk z = true
  alo : ∀ z, r.alone = some z → r.reading = [] ∧ r.asking = none
  ask : ∀ z, r.asking = some z → z ∈ r.reading
theorem nextPlace_can {l : List Wt} {s p r : Int} {w : Bool} {k : Nat} (h : nextPlace l s p r w = some k) : ∃ v, l[k]? = some v ∧ canB s r w v.rd = true := by
  unfold nextPlace at h
  cases l with
  | nil => cases h
  | cons x l =>
    simp only at h
    split at h
    · rename_i hc
      cases h
      exact ⟨x, rfl, hc⟩
    · split at h
      · cases h
      · cases hf : firstReader (x :: l) with
        | none => rw [hf] at h; cases h
        | some j =>
          rw [hf] at h
          simp only at h
          split at h
          · cases h
          · rename_i hb
            split at h
            · cases h
            · cases h
              unfold firstReader at hf
              rw [List.findIdx?_eq_some_iff_getElem] at hf
              obtain ⟨hj, hr, _⟩ := hf
              refine ⟨_, List.getElem?_eq_getElem hj, ?_⟩
              rw [hr]
              simpa using hb
theorem split_at {α : Type} {l : List α} {k : Nat} {x : α} (h : l[k]? = some x) : l = l.take k ++ x :: l.drop (k + 1) := by
  obtain ⟨hk, e⟩ := List.getElem?_eq_some_iff.mp h
  subst e
  rw [← List.drop_eq_getElem_cons hk, List.take_append_drop]
/-- the names after one has begun -/
theorem names_perm {r : Rm} {k : Nat} {w : Wt} (h : r.waiting[k]? = some w) (rest : List Str) :
    (rest ++ w.name :: ((r.waiting.take k).map bump ++ r.waiting.drop (k + 1)).map (·.name)).Perm (rest ++ wNames r) := by
  refine List.Perm.append_left rest ?_
  unfold wNames
  have e := split_at h
  have e2 : r.waiting.map (·.name) = (r.waiting.take k).map (·.name) ++ w.name :: (r.waiting.drop (k + 1)).map (·.name) := by
    conv => lhs; rw [e]
    rw [List.map_append, List.map_cons]
  have e3 : ((r.waiting.take k).map bump ++ r.waiting.drop (k + 1)).map (·.name) = (r.waiting.take k).map (·.name) ++ (r.waiting.drop (k + 1)).map (·.name) := by
    rw [List.map_append, List.map_map]
    rfl
  rw [e2, e3]
  exact List.perm_middle.symm
theorem begun_inv {r : Rm} (I : Inv r) {p : Str × Bool} {r1 : Rm} (h : begun r = some (p, r1)) : Inv r1 ∧ (inNames r1 ++ wNames r1).Perm (inNames r ++ wNames r) := by
  unfold begun at h
  cases ha : r.asking with
  | some z =>
    rw [ha] at h
    simp only at h
    split at h
    · cases h
    · rename_i hl
      cases h
      have hz := I.ask z ha
      have hr : r.reading = [z] := by
        cases hrd : r.reading with
        | nil => rw [hrd] at hz; cases hz
        | cons y l =>
          rw [hrd] at hz hl
          cases l with
          | cons _ _ => simp at hl
          | nil => rw [List.mem_singleton.mp hz]
      have hal : r.alone = none := by
        cases hq : r.alone with
        | none => rfl
        | some y => have := (I.alo y hq).2; rw [ha] at this; cases this
      have hs := I.seats
      have hnd := I.nd
      have hok := I.ok
      have en : inNames r ++ wNames r = z :: wNames r := by unfold inNames; rw [hr, hal]; rfl
      rw [en] at hnd hok ⊢
      refine ⟨⟨hs, by show (0 : Int) ≤ r.seats; omega, hnd, hok, fun y hy => ⟨rfl, rfl⟩, fun y hy => by cases hy⟩, List.Perm.refl _⟩
  | none =>
    rw [ha] at h
    simp only at h
    cases hn : nextPlace r.waiting r.seats r.patience r.reading.length r.alone.isSome with
    | none => rw [hn] at h; cases h
    | some k =>
      rw [hn] at h
      simp only at h
      obtain ⟨w, hg, hc⟩ := nextPlace_can hn
      rw [hg] at h
      simp only at h
      cases h
      have hal : r.alone = none := by
        cases hq : r.alone with
        | none => rfl
        | some y =>
          rw [hq] at hc
          have c : ∀ b, canB r.seats r.reading.length true b = false := fun b => by cases b <;> rfl
          have hc : canB r.seats r.reading.length true w.rd = true := hc
          rw [c] at hc
          cases hc
      rw [hal] at hc
      have P := names_perm hg r.reading
      have hs := I.seats
      have en : inNames r ++ wNames r = r.reading ++ wNames r := by unfold inNames; rw [hal]; simp
      have hnd := I.nd
      have hok := I.ok
      rw [en] at hnd hok ⊢
      have hnd := P.symm.nodup hnd
      have hok : ∀ z ∈ r.reading ++ w.name :: ((r.waiting.take k).map bump ++ r.waiting.drop (k + 1)).map (·.name), nameOk z = true := fun z hz => hok z (P.mem_iff.mp hz)
      cases hrd : w.rd with
      | true =>
        rw [hrd] at hc
        have hc : decide ((r.reading.length : Int) < r.seats) = true := hc
        have hc := of_decide_eq_true hc
        have el : (r.reading ++ [w.name]) ++ r.alone.toList ++ ((r.waiting.take k).map bump ++ r.waiting.drop (k + 1)).map (·.name) = r.reading ++ w.name :: ((r.waiting.take k).map bump ++ r.waiting.drop (k + 1)).map (·.name) := by rw [hal]; simp
        refine ⟨⟨hs, ?_, ?_, ?_, ?_, ?_⟩, ?_⟩
        · simp only [cond_true, List.length_append, List.length_singleton]
          omega
        · simp only [inNames, wNames, cond_true]
          rw [el]; exact hnd
        · simp only [inNames, wNames, cond_true]
          rw [el]; exact hok
        · intro z hz
          simp only [cond_true] at hz
          rw [hal] at hz; cases hz
        · intro z hz
          cases hz
        · simp only [inNames, wNames, cond_true]
          rw [el]; exact P
      | false =>
        rw [hrd] at hc
        have hc : decide ((r.reading.length : Int) = 0) = true := hc
        have hc := of_decide_eq_true hc
        have hr0 : r.reading = [] := List.length_eq_zero_iff.mp (by omega)
        rw [hr0] at hnd hok P ⊢
        refine ⟨⟨hs, ?_, ?_, ?_, ?_, ?_⟩, ?_⟩
        · simp only [cond_false, List.length_nil]
          omega
        · simp only [inNames, wNames, cond_false]
          exact hnd
        · simp only [inNames, wNames, cond_false]
          exact hok
        · intro z hz
          exact ⟨rfl, rfl⟩
        · intro z hz
          cases hz
        · simp only [inNames, wNames, cond_false]
          exact P
theorem settle_inv : ∀ (n : Nat) (r : Rm), Inv r → Inv (settle n r).2 ∧ (inNames (settle n r).2 ++ wNames (settle n r).2).Perm (inNames r ++ wNames r)
  | 0, r, I => ⟨I, List.Perm.refl _⟩
  | n + 1, r, I => by
    unfold settle
    cases h : begun r with
    | none => exact ⟨I, List.Perm.refl _⟩
    | some q =>
      obtain ⟨p, r1⟩ := q
      obtain ⟨I1, P1⟩ := begun_inv I h
      have I2 : Inv (logB r1 p) := ⟨I1.seats, I1.rds, I1.nd, I1.ok, I1.alo, I1.ask⟩
      obtain ⟨I3, P3⟩ := settle_inv n (logB r1 p) I2
      exact ⟨I3, P3.trans P1⟩
/-- behind the settling nobody can begin -/
theorem settle_rest : ∀ (n : Nat) (r : Rm), meas r ≤ n → begun (settle n r).2 = none
  | 0, r, h => begun_zero (r := r) (by omega)
  | n + 1, r, h => by
    unfold settle
    cases hb : begun r with
    | none => exact hb
    | some q =>
      obtain ⟨p, r1⟩ := q
      exact settle_rest n (logB r1 p) (by rw [meas_log]; have := (begun_spec hb).1; omega)
theorem settle_numbers : ∀ (n : Nat) (r : Rm), (settle n r).2.seats = r.seats ∧ (settle n r).2.patience = r.patience
  | 0, r => ⟨rfl, rfl⟩
  | n + 1, r => by
    unfold settle
    cases hb : begun r with
    | none => exact ⟨rfl, rfl⟩
    | some q =>
      obtain ⟨p, r1⟩ := q
      obtain ⟨h1, h2⟩ := settle_numbers n (logB r1 p)
      have h3 : r1.seats = r.seats ∧ r1.patience = r.patience := by
        unfold begun at hb
        split at hb
        · split at hb
          · cases hb
          · cases hb; exact ⟨rfl, rfl⟩
        · split at hb
          · cases hb
          · split at hb
            · cases hb
            · cases hb; exact ⟨rfl, rfl⟩
      exact ⟨h1.trans h3.1, h2.trans h3.2⟩
/-! ### deeds -/
inductive Kd where
  | came
  | left
  | asked
  | eased
def Kd.word : Kd → Str
  | came => Str.ofString "came"
  | left => Str.ofString "left"
  | asked => Str.ofString "asked"
  | eased => Str.ofString "eased"
structure Dd where
  kind : Kd
  name : Str
  rd : Bool
def eD (d : Dd) : D := .tup [.str d.kind.word, .str d.name, .str (wishS d.rd)]
def eDs (l : List Dd) : List D := l.map eD
def doO (r : Rm) (d : Dd) : Out := match d.kind with
  | .came => comeO r (.str d.name) (.str (wishS d.rd))
  | .left => leaveO r (.str d.name)
  | .asked => askO r (.str d.name)
  | .eased => easeO r (.str d.name)

local macro_rules | `(tactic| walk_at "dl") => `(tactic| try simp -implicitDefEqProofs only [DL.dNext, DL.dSeq, DL.dExpr, DL.dRet, DL.dIfS, DL.dSet, DL.dCont, DL.dRaise, DL.dFor, DL.dgName, DL.dgPair, DL.dTry, DL.dFn, DL.dMth, DL.dMk, DL.dFld, DL.dFldS, DL.dPut, DL.dVar, DL.slot, DL.dC, DL.dOp, DL.dUn, DL.oSub, DL.oMul, DL.oDiv, DL.oMod, DL.oPow, DL.oLt, DL.oLe, DL.oGt, DL.oGe, DL.oEq, DL.oNe, DL.oIn, DL.oNotIn, DL.dB, DL.dIsN, DL.dChain, DL.dAnd, DL.dOr, DL.dNot, DL.dAndV, DL.dOrV, DL.dNotV, DL.dIf, DL.dNil, DL.dCons, DL.few, DL.dLst, DL.dTup, DL.dLstM, DL.dFrz, DL.dPairs, DL.dDisp, DL.dDic0, DL.dSl, DL.dNoPart, DL.dCall, DL.dMet0L, DL.dMet, DL.dItems, DL.dRange1, DL.dEnum, DL.dLcM, DL.dwipe, DL.startD, DL.dNever, DL.el_some, DL.elL_lst, DL.elD_dic, DL.elI_ins, DL.res_non, DL.res_bl, DL.res_int, DL.res_str, DL.res_lst, DL.res_tupE, DL.res_dic, DL.res_scr, DL.res_ty, DL.oAdd_eq, DL.addR_int, DL.addR_str, DL.addR_lst, DL.addR_tup, DL.oAddM_eq, DL.addMR_lst, DL.oInt_eq, DL.intR_int, DL.oInt0_eq, DL.int0R_int, DL.oNeg_eq, DL.negR_int, DL.oEqN_eq, DL.eqR_some, DL.eqR_none, DL.eqS_non_non, DL.eqS_non_int, DL.eqS_non_bl, DL.eqS_non_str, DL.eqS_non_lst, DL.eqS_non_tup, DL.eqS_int_non, DL.eqS_int_int, DL.eqS_int_bl, DL.eqS_int_str, DL.eqS_int_lst, DL.eqS_int_tup, DL.eqS_bl_non, DL.eqS_bl_int, DL.eqS_bl_bl, DL.eqS_bl_str, DL.eqS_bl_lst, DL.eqS_bl_tup, DL.eqS_str_non, DL.eqS_str_int, DL.eqS_str_bl, DL.eqS_str_str, DL.eqS_str_lst, DL.eqS_str_tup, DL.eqS_lst_non, DL.eqS_lst_int, DL.eqS_lst_bl, DL.eqS_lst_str, DL.eqS_lst_lst, DL.eqS_lst_tup, DL.eqS_tup_non, DL.eqS_tup_int, DL.eqS_tup_bl, DL.eqS_tup_str, DL.eqS_tup_lst, DL.eqS_tup_tup, DL.eqS_obj_non, DL.eqS_non_obj, DL.eqS_obj_int, DL.eqS_int_obj, DL.eqS_obj_bl, DL.eqS_bl_obj, DL.eqS_obj_str, DL.eqS_str_obj, DL.eqS_obj_lst, DL.eqS_lst_obj, DL.eqS_obj_tup, DL.eqS_tup_obj, DL.eqS_obj_obj, DL.oInN_eq, DL.inR_lst, DL.inR_tup, DL.inR_str, DL.flatD_non, DL.flatD_bl, DL.flatD_int, DL.flatD_str, DL.asB_bl, DL.isN_non, DL.isN_bl, DL.isN_int, DL.isN_str, DL.isN_lst, DL.isN_tup, DL.isN_dic, DL.isN_scr, DL.isN_ty, DL.isN_obj, DL.frz_non, DL.frz_bl, DL.frz_int, DL.frz_str, DL.frz_lst, DL.frz_tup, DL.frz_dic, DL.frz_scr, DL.frz_ty, DL.oIx_eq, DL.ixR_lst, DL.ixR_tup, DL.ixR_scr, DL.ixR_str, DL.ixR_dic, DL.nth_0, DL.nth_1, DL.nth_2, DL.nth_3, DL.oSl_eq, DL.slR_lst, DL.slR_tup, DL.slR_str, DL.dPart_eq, DL.partR_int, DL.on1_cons, DL.on2_cons, DL.lenD_lst, DL.lenD_tup, DL.lenD_scr, DL.lenD_str, DL.intD_int, DL.intD_bl, DL.strD_int, DL.int2_int, DL.listM_lst, DL.listF_lst, DL.listM_tup, DL.listF_tup, DL.dictM_dic, DL.isiD_ty, DL.oAppend_obj, DL.oInsert_obj, DL.oPop_obj, DL.oPopAt_obj, DL.isLst_eq, DL.isLstR_lst, DL.isStr_str, DL.oSplit_str, DL.oJoin_str, DL.itemsOf_lst, DL.itemsOf_tup, DL.itemsOf_str, DL.rng1_int, DL.enumOf_lst, DL.two_tup, DL.insIs_obj, DL.getFld_obj, DL.setFld_obj, DL.putDic_obj, DL.isB_str_non, DL.isB_str_bl, DL.isB_str_int, DL.isB_str_str, DL.isB_str_lst, DL.isB_str_tup, DL.isB_str_dic, DL.isB_int_non, DL.isB_int_bl, DL.isB_int_int, DL.isB_int_str, DL.isB_int_lst, DL.isB_int_tup, DL.isB_int_dic, DL.isB_bool_non, DL.isB_bool_bl, DL.isB_bool_int, DL.isB_bool_str, DL.isB_bool_lst, DL.isB_bool_tup, DL.isB_bool_dic, DL.isB_list_non, DL.isB_list_bl, DL.isB_list_int, DL.isB_list_str, DL.isB_list_lst, DL.isB_list_tup, DL.isB_list_dic, DL.isB_tuple_non, DL.isB_tuple_bl, DL.isB_tuple_int, DL.isB_tuple_str, DL.isB_tuple_lst, DL.isB_tuple_tup, DL.isB_tuple_dic, Bool.cond_true, Bool.cond_false, L2.CDiv, Int.reduceLT, Int.reduceLE, true_and, and_true, cond_true, cond_false, List.map_cons, List.map_nil, List.set_cons_zero, List.set_cons_succ, List.set_nil, DL.cpow_109, DL.pow_109, DL.frz_set_lst, DL.frz_set_dic, Bool.not_true, Bool.not_false, DL.itemsOf_obj, DL.enumOf_obj, DL.all_still, okD_non, okD_bl, okD_int, okD_str, okD_lst, okD_tup, okD_dic, res_set_lst, Mem.set_same, Mem.set_set, lk_seats, lk_patience, lk_reading, lk_alone, lk_asking, lk_waiting, lk_rows, no_is_inside, no_is_waiting, no_look, no_come, no_leave, no_ask, no_ease, no_settled, no_begun, no_readers, no_writer, no_asker, no_line, no_passed, no_journal, dp_reading, dp_reading0, dp_reading1, dp_alone, dp_alone0, dp_asking, dp_asking0, dp_waiting, dp_rows, few_flds, eNames, isN_optS, res_optS, optS_some, optS_none, Option.isNone_none, Option.isNone_some])
theorem sub_nodup {α : Type} {a b c : List α} (h : (a ++ b ++ c).Nodup) : (a ++ c).Nodup := by
  rw [List.nodup_append] at h ⊢
  rw [List.nodup_append] at h
  exact ⟨h.1.1, h.2.1, fun x hx y hy => h.2.2 x (List.mem_append.mpr (.inl hx)) y hy⟩
theorem done_inv {r : Rm} (I : Inv r) (x : Rw) {l : List (Str × Bool)} {r' : Rm} (h : doneBy r x = .did l r') : Inv r' ∧ begun r' = none ∧ wgt r' ≤ wgt r + 1 ∧ r'.seats = r.seats ∧ r'.patience = r.patience := by
  unfold doneBy at h
  cases h
  have I2 : Inv (logR r x) := ⟨I.seats, I.rds, I.nd, I.ok, I.alo, I.ask⟩
  refine ⟨(settle_inv _ _ I2).1, settle_rest _ _ (Nat.le_refl _), ?_, (settle_numbers _ _).1, (settle_numbers _ _).2⟩
  refine Nat.le_trans (settle_wgt _ _) ?_
  unfold wgt logR
  simp only [List.length_append, List.length_singleton]
  omega
theorem mem_gone {r : Rm} {z y : Str} (h : y ∈ inNames (goneR r z) ++ wNames (goneR r z)) : y ∈ inNames r ++ wNames r ∧ y ≠ z := by
  unfold inNames wNames goneR at h
  simp only [List.mem_append, List.mem_map, List.mem_filter, Bool.not_eq_true', decide_eq_false_iff_not] at h
  rcases h with (⟨h1, h2⟩ | h) | ⟨w, ⟨h1, h2⟩, rfl⟩
  · exact ⟨List.mem_append.mpr (.inl (List.mem_append.mpr (.inl h1))), h2⟩
  · split at h
    · cases h
    · rename_i hn
      refine ⟨List.mem_append.mpr (.inl (List.mem_append.mpr (.inr h))), fun e => ?_⟩
      subst e
      cases ha : r.alone with
      | none => rw [ha] at h; cases h
      | some u =>
        rw [ha] at h hn
        have := List.mem_singleton.mp h
        exact hn (by rw [this])
  · exact ⟨List.mem_append.mpr (.inr (List.mem_map.mpr ⟨w, h1, rfl⟩)), h2⟩
theorem gone_nodup {r : Rm} (I : Inv r) (z : Str) : (inNames (goneR r z) ++ wNames (goneR r z)).Nodup := by
  have hs : (inNames (goneR r z) ++ wNames (goneR r z)).Sublist (inNames r ++ wNames r) := by
    unfold inNames wNames goneR
    simp only
    refine List.Sublist.append (List.Sublist.append List.filter_sublist ?_) (List.Sublist.map _ List.filter_sublist)
    split
    · exact List.nil_sublist _
    · exact List.Sublist.refl _
  exact hs.nodup I.nd
theorem gone_inv {r : Rm} (I : Inv r) (z : Str) : Inv (goneR r z) := by
  refine ⟨I.seats, ?_, gone_nodup I z, fun y hy => I.ok y (mem_gone hy).1, fun y hy => ?_, fun y hy => ?_⟩
  · have := I.rds
    have := List.length_filter_le (fun y => !decide (y = z)) r.reading
    show ((r.reading.filter (fun y => !decide (y = z))).length : Int) ≤ r.seats
    omega
  · have hy : (if r.alone = some z then none else r.alone) = some y := hy
    split at hy
    · cases hy
    · obtain ⟨h1, h2⟩ := I.alo y hy
      refine ⟨?_, ?_⟩
      · show r.reading.filter _ = []
        rw [h1]; rfl
      · show (if r.asking = some z then none else r.asking) = none
        rw [h2]; rfl
  · have hy : (if r.asking = some z then none else r.asking) = some y := hy
    split at hy
    · cases hy
    · rename_i hn
      have := I.ask y hy
      show y ∈ r.reading.filter (fun y => !decide (y = z))
      refine List.mem_filter.mpr ⟨this, ?_⟩
      rw [decide_eq_false (fun e => hn (by rw [hy, e]))]
      rfl
theorem gone_wgt (r : Rm) (z : Str) : wgt (goneR r z) ≤ wgt r := by
  unfold wgt goneR
  simp only
  have h1 := List.length_filter_le (fun y => !decide (y = z)) r.reading
  have h2 := List.length_filter_le (fun w : Wt => !decide (w.name = z)) r.waiting
  have h3 : cond (if r.asking = some z then none else r.asking).isSome 2 0 ≤ cond r.asking.isSome 2 0 := by
    split
    · exact Nat.zero_le _
    · exact Nat.le_refl _
  omega
theorem come_inv {r : Rm} (I : Inv r) {z : Str} (b : Bool) (hn : nameOk z = true) (h : (insideB r z || waitsB r z) = false) : Inv { r with waiting := r.waiting ++ [⟨z, b, 0⟩] } := by
  have e : (r.waiting ++ [(⟨z, b, 0⟩ : Wt)]).map (·.name) = wNames r ++ [z] := by
    rw [List.map_append]; rfl
  have hz : ¬ z ∈ inNames r ++ wNames r := fun hm => by
    obtain ⟨h1, h2⟩ := Bool.or_eq_false_iff.mp h
    unfold insideB at h1
    obtain ⟨h3, h4⟩ := Bool.or_eq_false_iff.mp h1
    rcases List.mem_append.mp hm with hm | hm
    · rcases List.mem_append.mp hm with hm | hm
      · exact of_decide_eq_false h3 hm
      · cases ha : r.alone with
        | none => rw [ha] at hm; cases hm
        | some u =>
          rw [ha] at hm h4
          have := List.mem_singleton.mp hm
          exact of_decide_eq_false h4 (by rw [this])
    · exact of_decide_eq_false h2 hm
  refine ⟨I.seats, I.rds, ?_, ?_, I.alo, I.ask⟩
  · show (inNames r ++ (r.waiting ++ [(⟨z, b, 0⟩ : Wt)]).map (·.name)).Nodup
    rw [e, ← List.append_assoc, List.nodup_append]
    refine ⟨I.nd, by simp, fun x hx y hy e => ?_⟩
    rw [List.mem_singleton.mp hy] at e
    subst e
    exact hz hx
  · intro y hy
    have hy : y ∈ inNames r ++ (r.waiting ++ [(⟨z, b, 0⟩ : Wt)]).map (·.name) := hy
    rw [e, ← List.append_assoc] at hy
    rcases List.mem_append.mp hy with hy | hy
    · exact I.ok y hy
    · rw [List.mem_singleton.mp hy]; exact hn
theorem deed_inv {r : Rm} (I : Inv r) (d : Dd) {l : List (Str × Bool)} {r' : Rm} (h : doO r d = .did l r') : Inv r' ∧ begun r' = none ∧ wgt r' ≤ wgt r + 3 ∧ r'.seats = r.seats ∧ r'.patience = r.patience := by
  obtain ⟨k, z, b⟩ := d
  cases k with
  | came =>
    have h : comeO r (.str z) (.str (wishS b)) = .did l r' := h
    unfold comeO at h
    split at h
    · cases h
    rename_i hn
    split at h
    · cases h
    simp only at h
    split at h
    · cases h
    rename_i hk
    have hk : (insideB r z || waitsB r z) = false := by simpa using hk
    have hn : nameOk z = true := by simpa [isName] using hn
    obtain ⟨h1, h2, h3, h4, h5⟩ := done_inv (come_inv I _ hn hk) _ h
    refine ⟨h1, h2, Nat.le_trans h3 ?_, h4, h5⟩
    unfold wgt
    simp only [List.length_append, List.length_singleton]
    omega
  | left =>
    have h : leaveO r (.str z) = .did l r' := h
    unfold leaveO at h
    split at h
    · cases h
    obtain ⟨h1, h2, h3, h4, h5⟩ := done_inv (gone_inv I z) _ h
    have := gone_wgt r z
    exact ⟨h1, h2, by omega, h4, h5⟩
  | asked =>
    have h : askO r (.str z) = .did l r' := h
    unfold askO at h
    split at h
    · cases h
    rename_i hh
    simp only at h
    split at h
    · cases h
    rename_i hw
    split at h
    · cases h
    rename_i ha
    split at h
    · cases h
    rename_i hk
    have hin : z ∈ r.reading := by
      have hh : (nameOk z && (insideB r z || waitsB r z)) = true := by
        have : ¬ (nameOk z && (insideB r z || waitsB r z)) = false := hh
        rw [Bool.not_eq_false] at this
        exact this
      obtain ⟨_, hh⟩ := Bool.and_eq_true_iff.mp hh
      have hw : waitsB r z = false := by simpa using hw
      have ha : r.alone = none := by simpa using ha
      rw [hw, Bool.or_false] at hh
      unfold insideB at hh
      rw [ha] at hh
      simpa using hh
    have I2 : Inv { r with asking := some z } := ⟨I.seats, I.rds, I.nd, I.ok, fun y hy => absurd (show r.alone.isSome = true by rw [show r.alone = some y from hy]; rfl) ha, fun y hy => by cases hy; exact hin⟩
    obtain ⟨h1, h2, h3, h4, h5⟩ := done_inv I2 _ h
    refine ⟨h1, h2, Nat.le_trans h3 ?_, h4, h5⟩
    unfold wgt
    simp only [Option.isSome_some, cond_true]
    omega
  | eased =>
    have h : easeO r (.str z) = .did l r' := h
    unfold easeO at h
    split at h
    · cases h
    rename_i hh
    simp only at h
    split at h
    · cases h
    rename_i hw
    split at h
    · cases h
    rename_i ha
    cases hal : r.alone with
    | none => rw [hal] at ha; exact absurd rfl ha
    | some y =>
      obtain ⟨hr, hk⟩ := I.alo y hal
      have hyz : y = z := by
        have hh : (nameOk z && (insideB r z || waitsB r z)) = true := by
          have : ¬ (nameOk z && (insideB r z || waitsB r z)) = false := hh
          rw [Bool.not_eq_false] at this
          exact this
        obtain ⟨_, hh⟩ := Bool.and_eq_true_iff.mp hh
        have hw : waitsB r z = false := by simpa using hw
        rw [hw, Bool.or_false] at hh
        unfold insideB at hh
        rw [hal, hr] at hh
        simpa using hh
      subst hyz
      have en : inNames r = [y] := by unfold inNames; rw [hr, hal]; rfl
      have nd := I.nd
      have ok := I.ok
      rw [en] at nd ok
      have hs := I.seats
      have I2 : Inv { r with alone := none, reading := [y] } := ⟨I.seats, by show (1 : Int) ≤ r.seats; exact hs, nd, ok, (fun u hu => by cases hu), fun u hu => by
        have hu : r.asking = some u := hu
        rw [hk] at hu; cases hu⟩
      obtain ⟨h1, h2, h3, h4, h5⟩ := done_inv I2 _ h
      refine ⟨h1, h2, Nat.le_trans h3 ?_, h4, h5⟩
      unfold wgt
      simp only [List.length_singleton]
      omega
/-! ### deeds as the plain laws tell them -/
theorem insideB_iff {r : Rm} {z : Str} : insideB r z = true ↔ z ∈ inNames r := by
  unfold insideB inNames
  rw [Bool.or_eq_true, decide_eq_true_iff, decide_eq_true_iff, List.mem_append]
  cases r.alone with
  | none => simp
  | some y =>
    simp only [Option.some.injEq, Option.toList_some, List.mem_singleton]
    exact ⟨fun h => h.imp id Eq.symm, fun h => h.imp id Eq.symm⟩
theorem waitsB_iff {r : Rm} {z : Str} : waitsB r z = true ↔ z ∈ wNames r := decide_eq_true_iff
theorem in_not_waits {r : Rm} (I : Inv r) {z : Str} (h : insideB r z = true) : waitsB r z = false := by
  cases e : waitsB r z with
  | false => rfl
  | true => exact absurd rfl ((List.nodup_append.mp I.nd).2.2 z (insideB_iff.mp h) z (waitsB_iff.mp e))
def refB (r : Rm) (d : Dd) : Bool := match d.kind with
  | .came => insideB r d.name || waitsB r d.name
  | .left => !(insideB r d.name || waitsB r d.name)
  | .asked => !decide (d.name ∈ r.reading) || r.asking.isSome
  | .eased => !decide (r.alone = some d.name)
def preR (r : Rm) (d : Dd) : Rm := match d.kind with
  | .came => { r with waiting := r.waiting ++ [⟨d.name, d.rd, 0⟩] }
  | .left => goneR r d.name
  | .asked => { r with asking := some d.name }
  | .eased => { r with alone := none, reading := [d.name] }
def rowOf (d : Dd) : Rw := match d.kind with
  | .came => .came d.name d.rd
  | .left => .left d.name
  | .asked => .asked d.name
  | .eased => .eased d.name
theorem here_eq {r : Rm} {z : Str} (hn : nameOk z = true) : hereB r (.str z) = (insideB r z || waitsB r z) := by
  show (nameOk z && (insideB r z || waitsB r z)) = _
  rw [hn]; rfl
theorem isWish_wishS (b : Bool) : isWish (.str (wishS b)) = true := by
  show (decide (wishS b = Str.ofString "read") || decide (wishS b = Str.ofString "write")) = true
  rw [wishS_read, wishS_write]
  cases b <;> rfl
theorem not_reading_alone {r : Rm} (I : Inv r) {z : Str} (h : z ∈ r.reading) : r.alone = none := by
  cases e : r.alone with
  | none => rfl
  | some y => rw [(I.alo y e).1] at h; cases h
theorem do_ref {r : Rm} (I : Inv r) {d : Dd} (hn : nameOk d.name = true) (h : refB r d = true) : ∃ c, doO r d = .no c := by
  obtain ⟨k, z, b⟩ := d
  cases k with
  | came =>
    have h : (insideB r z || waitsB r z) = true := h
    have hn : isName (.str z) = true := hn
    refine ⟨.known, ?_⟩
    show comeO r (.str z) (.str (wishS b)) = _
    unfold comeO
    rw [if_neg (bt_ne hn), if_neg (bt_ne (isWish_wishS b))]
    simp only
    rw [if_pos h]
  | left =>
    have h : (!(insideB r z || waitsB r z)) = true := h
    refine ⟨.stranger, ?_⟩
    show leaveO r (.str z) = _
    unfold leaveO
    rw [if_pos (by rw [here_eq hn]; simpa using h)]
  | asked =>
    have h : (!decide (z ∈ r.reading) || r.asking.isSome) = true := h
    show ∃ c, askO r (.str z) = .no c
    unfold askO
    rw [here_eq hn]
    by_cases h1 : (insideB r z || waitsB r z) = false
    · exact ⟨_, if_pos h1⟩
    rw [if_neg h1]
    simp only
    by_cases h2 : waitsB r z = true
    · exact ⟨_, if_pos h2⟩
    rw [if_neg h2]
    by_cases h3 : r.alone.isSome = true
    · exact ⟨_, if_pos h3⟩
    rw [if_neg h3]
    by_cases h4 : r.asking.isSome = true
    · exact ⟨_, if_pos h4⟩
    exfalso
    have h2 : waitsB r z = false := by simpa using h2
    have h3 : r.alone = none := by simpa using h3
    have h4 : r.asking.isSome = false := by simpa using h4
    rw [h4, Bool.or_false] at h
    rw [h2, Bool.or_false] at h1
    unfold insideB at h1
    rw [h3] at h1
    simp at h h1
    exact h h1
  | eased =>
    have h : (!decide (r.alone = some z)) = true := h
    show ∃ c, easeO r (.str z) = .no c
    unfold easeO
    rw [here_eq hn]
    by_cases h1 : (insideB r z || waitsB r z) = false
    · exact ⟨_, if_pos h1⟩
    rw [if_neg h1]
    simp only
    by_cases h2 : waitsB r z = true
    · exact ⟨_, if_pos h2⟩
    rw [if_neg h2]
    by_cases h3 : r.alone.isNone = true
    · exact ⟨_, if_pos h3⟩
    exfalso
    have h2 : waitsB r z = false := by simpa using h2
    rw [h2, Bool.or_false] at h1
    unfold insideB at h1
    cases e : r.alone with
    | none => rw [e] at h3; exact h3 rfl
    | some y =>
      rw [(I.alo y e).1] at h1
      simp at h1 h
      exact h h1
theorem do_done {r : Rm} (I : Inv r) {d : Dd} (hn : nameOk d.name = true) (h : refB r d = false) : doO r d = doneBy (preR r d) (rowOf d) := by
  obtain ⟨k, z, b⟩ := d
  cases k with
  | came =>
    have h : (insideB r z || waitsB r z) = false := h
    have hn : isName (.str z) = true := hn
    show comeO r (.str z) (.str (wishS b)) = _
    unfold comeO
    rw [if_neg (bt_ne hn), if_neg (bt_ne (isWish_wishS b))]
    simp only
    rw [if_neg (bf_ne h), wishS_read]
    rfl
  | left =>
    have h : (!(insideB r z || waitsB r z)) = false := h
    show leaveO r (.str z) = _
    unfold leaveO
    rw [if_neg (by rw [here_eq hn]; simpa using h)]
    rfl
  | asked =>
    have h : (!decide (z ∈ r.reading) || r.asking.isSome) = false := h
    obtain ⟨h1, h2⟩ := Bool.or_eq_false_iff.mp h
    have h1 : z ∈ r.reading := by simpa using h1
    have hi : insideB r z = true := insideB_iff.mpr (List.mem_append.mpr (.inl h1))
    have hw := in_not_waits I hi
    show askO r (.str z) = _
    unfold askO
    rw [here_eq hn, hi, hw, if_neg (by decide)]
    simp only
    rw [if_neg (bf_ne hw), if_neg (by rw [not_reading_alone I h1]; decide), if_neg (bf_ne h2)]
    rfl
  | eased =>
    have h : (!decide (r.alone = some z)) = false := h
    have h1 : r.alone = some z := by simpa using h
    have hi : insideB r z = true := insideB_iff.mpr (List.mem_append.mpr (.inr (by rw [h1]; simp)))
    have hw := in_not_waits I hi
    show easeO r (.str z) = _
    unfold easeO
    rw [here_eq hn, hi, hw, if_neg (by decide)]
    simp only
    rw [if_neg (bf_ne hw), if_neg (by rw [h1]; exact Bool.false_ne_true)]
    rfl
theorem pre_inv {r : Rm} (I : Inv r) {d : Dd} (hn : nameOk d.name = true) (h : refB r d = false) : Inv (preR r d) := by
  obtain ⟨k, z, b⟩ := d
  cases k with
  | came => exact come_inv I b hn h
  | left => exact gone_inv I z
  | asked =>
    have h : (!decide (z ∈ r.reading) || r.asking.isSome) = false := h
    obtain ⟨h1, h2⟩ := Bool.or_eq_false_iff.mp h
    have h1 : z ∈ r.reading := by simpa using h1
    exact ⟨I.seats, I.rds, I.nd, I.ok, (fun y hy => by
      have hy : r.alone = some y := hy
      rw [not_reading_alone I h1] at hy
      cases hy), fun y hy => by cases hy; exact h1⟩
  | eased =>
    have h : (!decide (r.alone = some z)) = false := h
    have h1 : r.alone = some z := by simpa using h
    obtain ⟨hr, hk⟩ := I.alo z h1
    have en : inNames r = [z] := by unfold inNames; rw [hr, h1]; rfl
    have nd := I.nd
    have ok := I.ok
    rw [en] at nd ok
    have hs := I.seats
    exact ⟨I.seats, by show (1 : Int) ≤ r.seats; exact hs, nd, ok, (fun u hu => by cases hu), fun u hu => by
      have hu : r.asking = some u := hu
      rw [hk] at hu; cases hu⟩
/-- who is here behind a deed that was done -/
def behind (here : List Str) (d : Dd) : List Str := match d.kind with
  | .came => here ++ [d.name]
  | .left => here.filter fun y => !decide (y = d.name)
  | _ => here
theorem gone_names (r : Rm) (z : Str) : inNames (goneR r z) ++ wNames (goneR r z) = (inNames r ++ wNames r).filter (fun y => !decide (y = z)) := by
  unfold inNames wNames goneR
  simp only
  rw [List.filter_append, List.filter_append]
  have e1 : (if r.alone = some z then (none : Option Str) else r.alone).toList = r.alone.toList.filter (fun y => !decide (y = z)) := by
    cases e : r.alone with
    | none => simp
    | some y =>
      by_cases h : y = z
      · subst h; simp
      · rw [if_neg (by simpa using h)]
        simp [h]
  have e2 : (r.waiting.filter (fun w : Wt => !decide (w.name = z))).map (·.name) = (r.waiting.map (·.name)).filter (fun y => !decide (y = z)) := by
    rw [List.filter_map]; rfl
  rw [e1, e2]
theorem pre_names {r : Rm} (I : Inv r) {d : Dd} (h : refB r d = false) : inNames (preR r d) ++ wNames (preR r d) = behind (inNames r ++ wNames r) d := by
  obtain ⟨k, z, b⟩ := d
  cases k with
  | came =>
    show inNames r ++ (r.waiting ++ [(⟨z, b, 0⟩ : Wt)]).map (·.name) = (inNames r ++ wNames r) ++ [z]
    rw [List.map_append, List.append_assoc]
    rfl
  | left => exact gone_names r z
  | asked => rfl
  | eased =>
    have h : (!decide (r.alone = some z)) = false := h
    have h1 : r.alone = some z := by simpa using h
    obtain ⟨hr, hk⟩ := I.alo z h1
    show ([z] ++ []) ++ wNames r = inNames r ++ wNames r
    unfold inNames
    rw [hr, h1]
    rfl
theorem behind_perm {a b : List Str} (p : a.Perm b) (d : Dd) : (behind a d).Perm (behind b d) := by
  obtain ⟨k, z, b⟩ := d
  cases k with
  | came => exact p.append_right _
  | left => exact p.filter _
  | asked => exact p
  | eased => exact p
theorem pre_wgt (r : Rm) (d : Dd) (h : refB r d = false) (I : Inv r) : wgt (preR r d) ≤ wgt r + 2 := by
  obtain ⟨k, z, b⟩ := d
  cases k with
  | came =>
    show wgt { r with waiting := r.waiting ++ [(⟨z, b, 0⟩ : Wt)] } ≤ _
    unfold wgt
    simp only [List.length_append, List.length_singleton]
    omega
  | left => exact Nat.le_trans (gone_wgt r z) (Nat.le_add_right _ _)
  | asked =>
    show wgt { r with asking := some z } ≤ _
    unfold wgt
    simp only [Option.isSome_some, cond_true]
    omega
  | eased =>
    show wgt { r with alone := none, reading := [z] } ≤ _
    unfold wgt
    simp only [List.length_singleton]
    omega
theorem pre_numbers (r : Rm) (d : Dd) : (preR r d).seats = r.seats ∧ (preR r d).patience = r.patience ∧ (preR r d).rows = r.rows := by
  obtain ⟨k, z, b⟩ := d
  cases k <;> exact ⟨rfl, rfl, rfl⟩
/-- what a deed that was done leaves: all at once -/
theorem deed_did {r : Rm} (I : Inv r) {d : Dd} (hn : nameOk d.name = true) {l : List (Str × Bool)} {r' : Rm} (h : doO r d = .did l r') :
    refB r d = false ∧ l = (settle (meas (preR r d)) (logR (preR r d) (rowOf d))).1 ∧ r' = (settle (meas (preR r d)) (logR (preR r d) (rowOf d))).2 := by
  cases e : refB r d with
  | true =>
    obtain ⟨c, q⟩ := do_ref I hn e
    rw [q] at h; cases h
  | false =>
    rw [do_done I hn e] at h
    unfold doneBy at h
    cases h
    exact ⟨rfl, rfl, rfl⟩
theorem deed_names {r : Rm} (I : Inv r) {d : Dd} (hn : nameOk d.name = true) {l : List (Str × Bool)} {r' : Rm} (h : doO r d = .did l r') {here : List Str} (P : (inNames r ++ wNames r).Perm here) : (inNames r' ++ wNames r').Perm (behind here d) := by
  obtain ⟨h1, _, rfl⟩ := deed_did I hn h
  have I0 := pre_inv I hn h1
  have I2 : Inv (logR (preR r d) (rowOf d)) := ⟨I0.seats, I0.rds, I0.nd, I0.ok, I0.alo, I0.ask⟩
  refine (settle_inv _ _ I2).2.trans ?_
  show (inNames (preR r d) ++ wNames (preR r d)).Perm _
  rw [pre_names I h1]
  exact behind_perm P d
/-! ### who began is in the room -/
theorem next_alone (l : List Wt) (s p n : Int) : nextPlace l s p n true = none := by
  cases h : nextPlace l s p n true with
  | none => rfl
  | some k =>
    obtain ⟨v, _, hc⟩ := nextPlace_can h
    have c : ∀ b, canB s n true b = false := fun b => by cases b <;> rfl
    rw [c] at hc; cases hc
theorem begun_alone {r : Rm} {z : Str} (h : r.alone = some z) (ha : r.asking = none) : begun r = none := by
  unfold begun
  rw [ha]
  simp only
  rw [h, Option.isSome_some, next_alone]
theorem begun_asked {r r1 : Rm} {p : Str × Bool} {z : Str} (ha : r.asking = some z) (h : begun r = some (p, r1)) : ¬ 1 < r.reading.length ∧ p = (z, false) ∧ r1 = { r with alone := some z, asking := none, reading := [] } := by
  unfold begun at h
  rw [ha] at h
  simp only at h
  split at h
  · cases h
  · rename_i hl
    cases h
    exact ⟨hl, rfl, rfl⟩
theorem begun_plain {r r1 : Rm} {p : Str × Bool} (ha : r.asking = none) (h : begun r = some (p, r1)) : r.alone = none ∧ ∃ k w, nextPlace r.waiting r.seats r.patience r.reading.length false = some k ∧ r.waiting[k]? = some w ∧ p = (w.name, w.rd) ∧
    r1 = { r with reading := cond w.rd (r.reading ++ [w.name]) r.reading, alone := cond w.rd r.alone (some w.name), waiting := (r.waiting.take k).map bump ++ r.waiting.drop (k + 1) } := by
  have hal : r.alone = none := by
    cases e : r.alone with
    | none => rfl
    | some y => rw [begun_alone e ha] at h; cases h
  refine ⟨hal, ?_⟩
  unfold begun at h
  rw [ha] at h
  simp only at h
  rw [hal, Option.isSome_none] at h
  cases hn : nextPlace r.waiting r.seats r.patience r.reading.length false with
  | none => rw [hn] at h; cases h
  | some k =>
    rw [hn] at h
    simp only at h
    cases hg : r.waiting[k]? with
    | none => rw [hg] at h; cases h
    | some w =>
      rw [hg] at h
      simp only at h
      cases h
      rw [hal]
      rw [hal] at *
      exact ⟨k, w, rfl, hg, rfl, by rw [ha]⟩
theorem settle_alone {r : Rm} {z : Str} (h : r.alone = some z) (ha : r.asking = none) : ∀ n, settle n r = ([], r)
  | 0 => rfl
  | n + 1 => by
    unfold settle
    rw [begun_alone h ha]
def inAs (r : Rm) (p : Str × Bool) : Prop := (p.2 = true → p.1 ∈ r.reading) ∧ (p.2 = false → r.alone = some p.1)
theorem settle_grow : ∀ (n : Nat) (r : Rm), r.asking = none → ∀ z ∈ r.reading, z ∈ (settle n r).2.reading
  | 0, r, _, z, hz => hz
  | n + 1, r, ha, z, hz => by
    unfold settle
    cases h : begun r with
    | none => exact hz
    | some q =>
      obtain ⟨p, r1⟩ := q
      obtain ⟨hal, k, w, h1, h2, h3, h4⟩ := begun_plain ha h
      refine settle_grow n (logB r1 p) (by subst h4; exact ha) z ?_
      subst h4
      show z ∈ cond w.rd (r.reading ++ [w.name]) r.reading
      cases w.rd with
      | true => exact List.mem_append.mpr (.inl hz)
      | false => exact hz
theorem settle_in : ∀ (n : Nat) (r : Rm), ∀ p ∈ (settle n r).1, inAs (settle n r).2 p
  | 0, r, p, hp => by cases hp
  | n + 1, r, q, hq => by
    unfold settle at hq ⊢
    cases h : begun r with
    | none => rw [h] at hq; cases hq
    | some x =>
      obtain ⟨p, r1⟩ := x
      rw [h] at hq
      simp only at hq ⊢
      rcases List.mem_cons.mp hq with e | hq
      · subst e
        cases ha : r.asking with
        | some z =>
          obtain ⟨_, e1, e2⟩ := begun_asked ha h
          subst e1 e2
          rw [settle_alone (z := z) rfl rfl]
          exact ⟨(fun e => by cases e), fun _ => rfl⟩
        | none =>
          obtain ⟨hal, k, w, h1, h2, h3, h4⟩ := begun_plain ha h
          subst h3
          cases hw : w.rd with
          | true =>
            refine ⟨fun _ => settle_grow n _ (by subst h4; exact ha) _ ?_, fun e => by cases e⟩
            subst h4
            show w.name ∈ cond w.rd (r.reading ++ [w.name]) r.reading
            rw [hw]
            exact List.mem_append.mpr (.inr (List.mem_singleton.mpr rfl))
          | false =>
            rw [hw] at h4
            have e1 : (logB r1 (w.name, false)).alone = some w.name := by subst h4; rfl
            rw [settle_alone e1 (by subst h4; exact ha)]
            exact ⟨(fun e => by cases e), fun _ => e1⟩
      · exact settle_in n (logB r1 p) q hq
def passedI (r : Rm) (z : Str) : Int := ((r.waiting.filter fun w => decide (w.name = z)).map (·.n)).sum
theorem passed_of {r : Rm} (I : Inv r) {w : Wt} (h : w ∈ r.waiting) : passedI r w.name = w.n := by
  have nd : (r.waiting.map (·.name)).Nodup := (List.nodup_append.mp I.nd).2.1
  unfold passedI
  have : ∀ l : List Wt, (l.map (·.name)).Nodup → w ∈ l → ((l.filter fun v => decide (v.name = w.name)).map (·.n)).sum = w.n := by
    intro l
    induction l with
    | nil => intro _ h; cases h
    | cons v l ih =>
      intro nd hm
      rw [List.map_cons, List.nodup_cons] at nd
      rcases List.mem_cons.mp hm with e | hm
      · subst e
        have : l.filter (fun v => decide (v.name = w.name)) = [] := by
          rw [List.filter_eq_nil_iff]
          intro v hv e
          exact nd.1 (List.mem_map.mpr ⟨v, hv, of_decide_eq_true e⟩)
        rw [List.filter_cons_of_pos (by simp), this]
        simp
      · have : ¬ v.name = w.name := fun e => nd.1 (List.mem_map.mpr ⟨w, hm, e.symm⟩)
        rw [List.filter_cons_of_neg (by simpa using this)]
        exact ih nd.2 hm
  exact this _ nd h
theorem wait_here {r : Rm} (I : Inv r) {w : Wt} (h : w ∈ r.waiting) : hereB r (.str w.name) = true ∧ insideB r w.name = false ∧ waitsB r w.name = true := by
  have hm : w.name ∈ wNames r := List.mem_map.mpr ⟨w, h, rfl⟩
  have hok := I.ok w.name (List.mem_append.mpr (.inr hm))
  have hni : ¬ w.name ∈ inNames r := fun hi => (List.nodup_append.mp I.nd).2.2 _ hi _ hm rfl
  have h2 : waitsB r w.name = true := decide_eq_true hm
  have h1 : insideB r w.name = false := by
    unfold insideB
    rw [decide_eq_false (fun e => hni (List.mem_append.mpr (.inl e))), decide_eq_false (fun e => hni (List.mem_append.mpr (.inr (by rw [e]; simp))))]
    rfl
  refine ⟨?_, h1, h2⟩
  show (nameOk w.name && (insideB r w.name || waitsB r w.name)) = true
  rw [hok, h1, h2]
  rfl
theorem kw_came (k : Kd) : decide (k.word = Str.ofString "came") = (match k with | .came => true | _ => false) := by cases k <;> first | exact decide_eq_true rfl | exact decide_eq_false (by decide +kernel)
theorem kw_left (k : Kd) : decide (k.word = Str.ofString "left") = (match k with | .left => true | _ => false) := by cases k <;> first | exact decide_eq_true rfl | exact decide_eq_false (by decide +kernel)
theorem kw_asked (k : Kd) : decide (k.word = Str.ofString "asked") = (match k with | .asked => true | _ => false) := by cases k <;> first | exact decide_eq_true rfl | exact decide_eq_false (by decide +kernel)
theorem kw_eased (k : Kd) : decide (k.word = Str.ofString "eased") = (match k with | .eased => true | _ => false) := by cases k <;> first | exact decide_eq_true rfl | exact decide_eq_false (by decide +kernel)
def keepS (z : Str) : D → Bool
  | .str y => !decide (y = z)
  | _ => false
theorem keepS_names (z : Str) (l : List Str) : ((l.map D.str).filter (keepS z)).map id = (l.filter (fun y => !decide (y = z))).map .str := by
  rw [List.map_id, List.filter_map]
  rfl
def keepW (z : Str) : D → Bool
  | .tup (.str y :: _) => !decide (y = z)
  | _ => false
theorem keepW_line (z : Str) (l : List Wt) : ((eLine l).filter (keepW z)).map id = eLine (l.filter (fun w => !decide (w.name = z))) := by
  unfold eLine
  rw [List.map_id, List.filter_map]
  rfl
theorem begun_numbers {r r1 : Rm} {p : Str × Bool} (hb : begun r = some (p, r1)) : r1.seats = r.seats ∧ r1.patience = r.patience := by
  unfold begun at hb
  split at hb
  · split at hb
    · cases hb
    · cases hb; exact ⟨rfl, rfl⟩
  · split at hb
    · cases hb
    · split at hb
      · cases hb
      · cases hb; exact ⟨rfl, rfl⟩
theorem forL_cons {g : DG} {tb : DSt} {E : DEnds} {x : D} {xs : List D} {δ : DS} {M : Mem} : forL g tb E (x :: xs) δ M = g x δ M fun δ2 M2 => tb { E with nx := forL g tb E xs, ct := forL g tb E xs, bk := E.nx } δ2 M2 := rfl

theorem begun_none_next {r : Rm} (h : begun r = none) (ha : r.asking = none) : nextPlace r.waiting r.seats r.patience r.reading.length r.alone.isSome = none := by
  unfold begun at h
  rw [ha] at h
  simp only at h
  cases hn : nextPlace r.waiting r.seats r.patience r.reading.length r.alone.isSome with
  | none => rfl
  | some k =>
    rw [hn] at h
    simp only at h
    have hk := nextPlace_lt hn
    rw [List.getElem?_eq_getElem hk] at h
    cases h
/-- where somebody waits somebody is in the room -/
theorem rest_someone {r : Rm} (I : Inv r) (h : begun r = none) (e : inNames r = []) : r.waiting = [] := by
  obtain ⟨e1, e2⟩ := List.append_eq_nil_iff.mp e
  have hal : r.alone = none := by
    cases q : r.alone with
    | none => rfl
    | some y => rw [q] at e2; cases e2
  have hk : r.asking = none := by
    cases q : r.asking with
    | none => rfl
    | some y => have := I.ask y q; rw [e1] at this; cases this
  have hn := begun_none_next h hk
  rw [e1, hal] at hn
  cases hw : r.waiting with
  | nil => rfl
  | cons x l =>
    rw [hw] at hn
    have hs := I.seats
    have hc : canB r.seats ([] : List Str).length (none : Option Str).isSome x.rd = true := by
      cases x.rd with
      | true => show (!false && decide ((0 : Int) < r.seats)) = true; rw [decide_eq_true (by omega)]; rfl
      | false => rfl
    unfold nextPlace at hn
    simp only at hn
    rw [if_pos hc] at hn
    cases hn
theorem first_ahead {l : List Wt} {k : Nat} (h : firstReader l = some k) : ∀ j w, j < k → l[j]? = some w → w.rd = false := by
  unfold firstReader at h
  rw [List.findIdx?_eq_some_iff_getElem] at h
  obtain ⟨hk, h1, h2⟩ := h
  intro j w hj hw
  obtain ⟨hl, e⟩ := List.getElem?_eq_some_iff.mp hw
  have := h2 j hj
  rw [e] at this
  simpa using this
/-- what the rules say of who begins -/
theorem next_says {l : List Wt} {s p r : Int} {k : Nat} {v : Wt} (h : nextPlace l s p r false = some k) (hv : l[k]? = some v) :
    canB s r false v.rd = true ∧ (0 < k → v.rd = true ∧ r ≠ 0) ∧ ∀ j w, j < k → l[j]? = some w → w.rd = false ∧ w.n < p := by
  obtain ⟨u, hu, hc⟩ := nextPlace_can h
  rw [hv] at hu
  cases hu
  refine ⟨hc, ?_⟩
  unfold nextPlace at h
  cases l with
  | nil => cases h
  | cons x l =>
    simp only at h
    split at h
    · cases h
      exact ⟨fun h => absurd h (Nat.lt_irrefl _), fun j w hj => absurd hj (Nat.not_lt_zero _)⟩
    · split at h
      · cases h
      · rename_i hx
        cases hf : firstReader (x :: l) with
        | none => rw [hf] at h; cases h
        | some j =>
          rw [hf] at h
          simp only at h
          split at h
          · cases h
          · split at h
            · cases h
            · rename_i ha
              cases h
              have hrd : v.rd = true := by
                unfold firstReader at hf
                rw [List.findIdx?_eq_some_iff_getElem] at hf
                obtain ⟨hk, h1, _⟩ := hf
                obtain ⟨_, e⟩ := List.getElem?_eq_some_iff.mp hv
                rw [e] at h1
                exact h1
              refine ⟨fun _ => ⟨hrd, fun e => hx (.inr e)⟩, fun i w hi hw => ⟨first_ahead hf i w hi hw, ?_⟩⟩
              have hm : w ∈ (x :: l).take k := by
                refine List.mem_of_getElem? (i := i) ?_
                rw [List.getElem?_take_of_lt hi]
                exact hw
              have ha : ((x :: l).take k).any (fun o => decide (p ≤ o.n)) = false := by simpa using ha
              have := List.any_eq_false.mp ha w hm
              simp at this
              exact this

/-! ### the order of the line -/
def tl (l : List Wt) : List (Str × Bool) := l.map fun w => (w.name, w.rd)
theorem tl_bump (l : List Wt) : tl (l.map bump) = tl l := by unfold tl; rw [List.map_map]; rfl
theorem tl_app (a b : List Wt) : tl (a ++ b) = tl a ++ tl b := List.map_append
def ofB (b : Bool) (l : List (Str × Bool)) : List (Str × Bool) := l.filter fun p => p.2 == b
theorem ofB_app (b : Bool) (x y : List (Str × Bool)) : ofB b (x ++ y) = ofB b x ++ ofB b y := List.filter_append ..
theorem begun_order {r r1 : Rm} {p : Str × Bool} (ha : r.asking = none) (h : begun r = some (p, r1)) (b : Bool) : ofB b (tl r.waiting) = ofB b [p] ++ ofB b (tl r1.waiting) := by
  obtain ⟨hal, k, w, hn, hg, rfl, rfl⟩ := begun_plain ha h
  obtain ⟨_, s1, s2⟩ := next_says hn hg
  have e := split_at hg
  have e0 : ofB b (tl r.waiting) = ofB b (tl (r.waiting.take k)) ++ (ofB b [(w.name, w.rd)] ++ ofB b (tl (r.waiting.drop (k + 1)))) := by
    conv => lhs; rw [e]
    rw [tl_app, ofB_app, show tl (w :: r.waiting.drop (k + 1)) = [(w.name, w.rd)] ++ tl (r.waiting.drop (k + 1)) from rfl, ofB_app]
  show _ = _ ++ ofB b (tl ((r.waiting.take k).map bump ++ r.waiting.drop (k + 1)))
  rw [e0, tl_app, tl_bump, ofB_app]
  have hf : ∀ x ∈ tl (r.waiting.take k), x.2 = false := by
    intro x hx
    obtain ⟨v, hv, rfl⟩ := List.mem_map.mp hx
    obtain ⟨j, hj⟩ := List.getElem?_of_mem hv
    have hjk : j < k := by
      have := (List.getElem?_eq_some_iff.mp hj).1
      rw [List.length_take] at this
      omega
    rw [List.getElem?_take_of_lt hjk] at hj
    exact (s2 j v hjk hj).1
  by_cases hk : 0 < k
  · have hw := (s1 hk).1
    cases b with
    | true =>
      have : ofB true (tl (r.waiting.take k)) = [] := by
        unfold ofB
        rw [List.filter_eq_nil_iff]
        intro x hx
        rw [hf x hx]
        decide
      rw [this]
      rfl
    | false =>
      have : ofB false [(w.name, w.rd)] = [] := by rw [hw]; rfl
      rw [this]
      rfl
  · have : k = 0 := by omega
    subst this
    rfl
/-- who began, but for the one who had asked -/
def strip (o : Option Str) (l : List (Str × Bool)) : List (Str × Bool) := l.filter fun p => !(decide (o = some p.1) && !p.2)
theorem settle_order (o : Option Str) (b : Bool) : ∀ (n : Nat) (r : Rm), Inv r → (r.asking = none ∨ r.asking = o) → (∀ z, o = some z → z ∉ wNames r) →
    ofB b (strip o (settle n r).1) ++ ofB b (tl (settle n r).2.waiting) = ofB b (tl r.waiting) ∧ ((settle n r).2.asking = none ∨ (settle n r).2.asking = o) ∧ ∀ z ∈ wNames (settle n r).2, z ∈ wNames r
  | 0, r, I, h1, h2 => ⟨rfl, h1, fun z hz => hz⟩
  | n + 1, r, I, h1, h2 => by
    unfold settle
    cases hb : begun r with
    | none => exact ⟨rfl, h1, fun z hz => hz⟩
    | some q =>
      obtain ⟨p, r1⟩ := q
      have I1 := (begun_inv I hb).1
      have I2 : Inv (logB r1 p) := ⟨I1.seats, I1.rds, I1.nd, I1.ok, I1.alo, I1.ask⟩
      simp only
      cases ha : r.asking with
      | some z =>
        obtain ⟨_, rfl, rfl⟩ := begun_asked ha hb
        obtain ⟨i1, i2, i3⟩ := settle_order o b n _ I2 (.inl rfl) h2
        refine ⟨?_, i2, i3⟩
        have ho : o = some z := by
          rcases h1 with e | e
          · rw [ha] at e; cases e
          · rw [← e]; exact ha
        have : strip o ((z, false) :: (settle n (logB { r with alone := some z, asking := none, reading := [] } (z, false))).1) = strip o (settle n (logB { r with alone := some z, asking := none, reading := [] } (z, false))).1 := by
          unfold strip
          rw [List.filter_cons_of_neg (by rw [ho]; simp)]
        rw [this]
        exact i1
      | none =>
        have ho := begun_order ha hb b
        obtain ⟨hal, k, w, hn, hg, rfl, rfl⟩ := begun_plain ha hb
        have hmem : w.name ∈ wNames r := List.mem_map.mpr ⟨w, List.mem_of_getElem? hg, rfl⟩
        have hsub : ∀ z ∈ wNames (logB { r with reading := cond w.rd (r.reading ++ [w.name]) r.reading, alone := cond w.rd r.alone (some w.name), waiting := (r.waiting.take k).map bump ++ r.waiting.drop (k + 1) } (w.name, w.rd)), z ∈ wNames r := by
          intro z hz
          obtain ⟨v, hv, rfl⟩ := List.mem_map.mp hz
          rcases List.mem_append.mp hv with hv | hv
          · obtain ⟨u, hu, rfl⟩ := List.mem_map.mp hv
            exact List.mem_map.mpr ⟨u, List.mem_of_mem_take hu, rfl⟩
          · exact List.mem_map.mpr ⟨v, List.mem_of_mem_drop hv, rfl⟩
        obtain ⟨i1, i2, i3⟩ := settle_order o b n _ I2 (.inl ha) fun z hz hm => h2 z hz (hsub z hm)
        refine ⟨?_, i2, fun z hz => hsub z (i3 z hz)⟩
        rw [ho, ← show _ = ofB b (tl ((r.waiting.take k).map bump ++ r.waiting.drop (k + 1))) from i1, ← List.append_assoc]
        congr 1
        have : strip o ((w.name, w.rd) :: (settle n (logB { r with reading := cond w.rd (r.reading ++ [w.name]) r.reading, alone := cond w.rd r.alone (some w.name), waiting := (r.waiting.take k).map bump ++ r.waiting.drop (k + 1) } (w.name, w.rd))).1) = [(w.name, w.rd)] ++ strip o (settle n (logB { r with reading := cond w.rd (r.reading ++ [w.name]) r.reading, alone := cond w.rd r.alone (some w.name), waiting := (r.waiting.take k).map bump ++ r.waiting.drop (k + 1) } (w.name, w.rd))).1 := by
          unfold strip
          rw [List.filter_cons_of_pos (by
            have : ¬ o = some w.name := fun e => h2 _ e hmem
            rw [decide_eq_false this]
            rfl)]
          rfl
        rw [this, ofB_app]

theorem eqv_refl_lst {n : Nat} (h : ∀ d, flatN n d = true → D.eqv d d = true) : ∀ xs : List D, flatL n xs = true → D.eqv (.lst xs) (.lst xs) = true
  | [], _ => rfl
  | x :: xs, hf => by
    rw [flatL_cons, Bool.and_eq_true] at hf
    rw [eqv_lst_cons, h x hf.1, eqv_refl_lst h xs hf.2]
    rfl
theorem eqv_refl : ∀ (n : Nat) (d : D), flatN n d = true → D.eqv d d = true
  | n, .non, _ => rfl
  | n, .bl b, _ => by cases b <;> rfl
  | n, .int i, _ => by rw [eqv_int]; exact decide_eq_true rfl
  | n, .str s, _ => by rw [eqv_str]; exact decide_eq_true rfl
  | 0, .lst xs, h => by simp [flatN] at h
  | 0, .tup xs, h => by simp [flatN] at h
  | n + 1, .lst xs, h => eqv_refl_lst (eqv_refl n) xs (by rw [← flatN_lst]; exact h)
  | n + 1, .tup xs, h => by rw [eqv_tup]; exact eqv_refl_lst (eqv_refl n) xs (by rw [← flatN_tup]; exact h)
  | n, .dic kvs, h => by cases n <;> simp [flatN] at h
  | n, .scr ns, h => by cases n <;> simp [flatN] at h
  | n, .obj a, h => by cases n <;> simp [flatN] at h
  | n, .ty a, h => by cases n <;> simp [flatN] at h

local macro_rules | `(tactic| walk_at "dl") => `(tactic| try simp -implicitDefEqProofs only [DL.dNext, DL.dSeq, DL.dExpr, DL.dRet, DL.dIfS, DL.dSet, DL.dCont, DL.dRaise, DL.dFor, DL.dgName, DL.dgPair, DL.dTry, DL.dFn, DL.dMth, DL.dMk, DL.dFld, DL.dFldS, DL.dPut, DL.dVar, DL.slot, DL.dC, DL.dOp, DL.dUn, DL.oSub, DL.oMul, DL.oDiv, DL.oMod, DL.oPow, DL.oLt, DL.oLe, DL.oGt, DL.oGe, DL.oEq, DL.oNe, DL.oIn, DL.oNotIn, DL.dB, DL.dIsN, DL.dChain, DL.dAnd, DL.dOr, DL.dNot, DL.dAndV, DL.dOrV, DL.dNotV, DL.dIf, DL.dNil, DL.dCons, DL.few, DL.dLst, DL.dTup, DL.dLstM, DL.dFrz, DL.dPairs, DL.dDisp, DL.dDic0, DL.dSl, DL.dNoPart, DL.dCall, DL.dMet0L, DL.dMet, DL.dItems, DL.dRange1, DL.dEnum, DL.dLcM, DL.dwipe, DL.startD, DL.dNever, DL.el_some, DL.elL_lst, DL.elD_dic, DL.elI_ins, DL.res_non, DL.res_bl, DL.res_int, DL.res_str, DL.res_lst, DL.res_tupE, DL.res_dic, DL.res_scr, DL.res_ty, DL.oAdd_eq, DL.addR_int, DL.addR_str, DL.addR_lst, DL.addR_tup, DL.oAddM_eq, DL.addMR_lst, DL.oInt_eq, DL.intR_int, DL.oInt0_eq, DL.int0R_int, DL.oNeg_eq, DL.negR_int, DL.oEqN_eq, DL.eqR_some, DL.eqR_none, DL.eqS_non_non, DL.eqS_non_int, DL.eqS_non_bl, DL.eqS_non_str, DL.eqS_non_lst, DL.eqS_non_tup, DL.eqS_int_non, DL.eqS_int_int, DL.eqS_int_bl, DL.eqS_int_str, DL.eqS_int_lst, DL.eqS_int_tup, DL.eqS_bl_non, DL.eqS_bl_int, DL.eqS_bl_bl, DL.eqS_bl_str, DL.eqS_bl_lst, DL.eqS_bl_tup, DL.eqS_str_non, DL.eqS_str_int, DL.eqS_str_bl, DL.eqS_str_str, DL.eqS_str_lst, DL.eqS_str_tup, DL.eqS_lst_non, DL.eqS_lst_int, DL.eqS_lst_bl, DL.eqS_lst_str, DL.eqS_lst_lst, DL.eqS_lst_tup, DL.eqS_tup_non, DL.eqS_tup_int, DL.eqS_tup_bl, DL.eqS_tup_str, DL.eqS_tup_lst, DL.eqS_tup_tup, DL.eqS_obj_non, DL.eqS_non_obj, DL.eqS_obj_int, DL.eqS_int_obj, DL.eqS_obj_bl, DL.eqS_bl_obj, DL.eqS_obj_str, DL.eqS_str_obj, DL.eqS_obj_lst, DL.eqS_lst_obj, DL.eqS_obj_tup, DL.eqS_tup_obj, DL.eqS_obj_obj, DL.oInN_eq, DL.inR_lst, DL.inR_tup, DL.inR_str, DL.flatD_non, DL.flatD_bl, DL.flatD_int, DL.flatD_str, DL.asB_bl, DL.isN_non, DL.isN_bl, DL.isN_int, DL.isN_str, DL.isN_lst, DL.isN_tup, DL.isN_dic, DL.isN_scr, DL.isN_ty, DL.isN_obj, DL.frz_non, DL.frz_bl, DL.frz_int, DL.frz_str, DL.frz_lst, DL.frz_tup, DL.frz_dic, DL.frz_scr, DL.frz_ty, DL.oIx_eq, DL.ixR_lst, DL.ixR_tup, DL.ixR_scr, DL.ixR_str, DL.ixR_dic, DL.nth_0, DL.nth_1, DL.nth_2, DL.nth_3, DL.oSl_eq, DL.slR_lst, DL.slR_tup, DL.slR_str, DL.dPart_eq, DL.partR_int, DL.on1_cons, DL.on2_cons, DL.lenD_lst, DL.lenD_tup, DL.lenD_scr, DL.lenD_str, DL.intD_int, DL.intD_bl, DL.strD_int, DL.int2_int, DL.listM_lst, DL.listF_lst, DL.listM_tup, DL.listF_tup, DL.dictM_dic, DL.isiD_ty, DL.oAppend_obj, DL.oInsert_obj, DL.oPop_obj, DL.oPopAt_obj, DL.isLst_eq, DL.isLstR_lst, DL.isStr_str, DL.oSplit_str, DL.oJoin_str, DL.itemsOf_lst, DL.itemsOf_tup, DL.itemsOf_str, DL.rng1_int, DL.enumOf_lst, DL.two_tup, DL.insIs_obj, DL.getFld_obj, DL.setFld_obj, DL.putDic_obj, DL.isB_str_non, DL.isB_str_bl, DL.isB_str_int, DL.isB_str_str, DL.isB_str_lst, DL.isB_str_tup, DL.isB_str_dic, DL.isB_int_non, DL.isB_int_bl, DL.isB_int_int, DL.isB_int_str, DL.isB_int_lst, DL.isB_int_tup, DL.isB_int_dic, DL.isB_bool_non, DL.isB_bool_bl, DL.isB_bool_int, DL.isB_bool_str, DL.isB_bool_lst, DL.isB_bool_tup, DL.isB_bool_dic, DL.isB_list_non, DL.isB_list_bl, DL.isB_list_int, DL.isB_list_str, DL.isB_list_lst, DL.isB_list_tup, DL.isB_list_dic, DL.isB_tuple_non, DL.isB_tuple_bl, DL.isB_tuple_int, DL.isB_tuple_str, DL.isB_tuple_lst, DL.isB_tuple_tup, DL.isB_tuple_dic, Bool.cond_true, Bool.cond_false, L2.CDiv, Int.reduceLT, Int.reduceLE, true_and, and_true, cond_true, cond_false, List.map_cons, List.map_nil, List.set_cons_zero, List.set_cons_succ, List.set_nil, DL.cpow_109, DL.pow_109, DL.frz_set_lst, DL.frz_set_dic, Bool.not_true, Bool.not_false, DL.itemsOf_obj, DL.enumOf_obj, DL.all_still, okD_non, okD_bl, okD_int, okD_str, okD_lst, okD_tup, okD_dic, res_set_lst, Mem.set_same, Mem.set_set, lk_seats, lk_patience, lk_reading, lk_alone, lk_asking, lk_waiting, lk_rows, no_is_inside, no_is_waiting, no_look, no_come, no_leave, no_ask, no_ease, no_settled, no_begun, no_readers, no_writer, no_asker, no_line, no_passed, no_journal, dp_reading, dp_reading0, dp_reading1, dp_alone, dp_alone0, dp_asking, dp_asking0, dp_waiting, dp_rows, few_flds, eNames, isN_optS, res_optS, optS_some, optS_none, Option.isNone_none, Option.isNone_some])
/-! ### _law_people(_law_cell, _law_many): 0 _law_cell, 1 _law_many, 2 _law_some, 3 _law_head, 4 _law_rest, 5 _law_k, 6 _law_way, 7 _law_left, 8 _law_right -/
def t_l_people_L1_1  : DSt :=
  (dSet 4 (dOp oDiv (dVar 4) (dC (.int 36))))
def t_l_people_L1  : DSt :=
  (dSeq (dSet 3 (dOp oAdd (dVar 3) (dOp oIx (dVar 2) (dOp oMod (dVar 4) (dC (.int 36))))))
  t_l_people_L1_1)
def t_l_people_10  : DSt :=
  (dRet (dLc (dRange1 (dCons (dVar 1) dNil)) 5 dYes (dOp oAdd (dVar 3) (dCall (on1 strD) (dCons (dVar 5) dNil)))))
def t_l_people_9  : DSt :=
  (dSeq (dSet 3 (dSl (dVar 3) dNoPart (dPart (dOp oSub (dC (.int 10)) (dCall (on1 intD) (dCons (dOp oGt (dVar 1) (dC (.int 99))) dNil))))))
  t_l_people_10)
def t_l_people_8  : DSt :=
  (dSeq (dIfS (dAnd (dB (dOp oLt (dVar 6) (dC (.int 4)))) (dB (dOp oLt (dVar 1) (dC (.int 37))))) (dSeq (dSet 7 (dSl (dVar 3) dNoPart (dPart (dOp oMod (dOp oDiv (dVar 0) (dC (.int 5))) (dOp oAdd (dCall (on1 lenD) (dCons (dVar 3) dNil)) (dC (.int 1)))))))
  (dSeq (dSet 8 (dSl (dVar 3) (dPart (dCall (on1 lenD) (dCons (dVar 7) dNil))) dNoPart))
  (dRet (dLc (dRange1 (dCons (dVar 1) dNil)) 5 dYes (dOp oAdd (dOp oAdd (dVar 7) (dOp oIx (dVar 2) (dOp oMod (dOp oAdd (dOp oDiv (dVar 0) (dC (.int 7))) (dOp oMul (dC (.int 7)) (dVar 5))) (dC (.int 36))))) (dVar 8)))))) dNext)
  t_l_people_9)
def t_l_people_7  : DSt :=
  (dSeq (dSet 3 (dSl (dVar 3) dNoPart (dPart (dOp oMod (dOp oDiv (dVar 0) (dC (.int 6))) (dC (.int 12))))))
  t_l_people_8)
def t_l_people_6  : DSt :=
  (dSeq (dIfS (dAnd (dB (dOp oEq (dVar 6) (dC (.int 1)))) (dB (dOp oLt (dVar 1) (dC (.int 13))))) (dRet (dLc (dRange1 (dCons (dVar 1) dNil)) 5 dYes (dSl (dVar 3) (dPart (dOp oSub (dC (.int 11)) (dVar 5))) dNoPart))) dNext)
  t_l_people_7)
def t_l_people_5  : DSt :=
  (dSeq (dIfS (dAnd (dB (dOp oEq (dVar 6) (dC (.int 0)))) (dB (dOp oLt (dVar 1) (dC (.int 13))))) (dRet (dLc (dRange1 (dCons (dVar 1) dNil)) 5 dYes (dSl (dVar 3) dNoPart (dPart (dOp oAdd (dVar 5) (dC (.int 1))))))) dNext)
  t_l_people_6)
def t_l_people_4  : DSt :=
  (dSeq (dSet 6 (dOp oMod (dVar 0) (dC (.int 6))))
  t_l_people_5)
def t_l_people_3  : DSt :=
  (dSeq (dFor (dRange1 (dCons (dC (.int 12)) dNil)) (dgName 5) t_l_people_L1)
  t_l_people_4)
def t_l_people_2  : DSt :=
  (dSeq (dSet 4 (dOp oDiv (dVar 0) (dC (.int 36))))
  t_l_people_3)
def t_l_people_1  : DSt :=
  (dSeq (dSet 3 (dC (.str "")))
  t_l_people_2)
def t_l_people  : DSt :=
  (dSeq (dSet 2 (dC (.str "abcdefghijklmnopqrstuvwxyz0123456789")))
  t_l_people_1)
local macro_rules | `(tactic| walk_at "un") => `(tactic| simp only [t_l_people_10, t_l_people_9, t_l_people_8, t_l_people_7, t_l_people_6, t_l_people_5, t_l_people_4, t_l_people_3, t_l_people_2, t_l_people_1, t_l_people])
def m_l_people : FDm := fun ds M Q _ => match ds with
  | [.int _, .int many] => 0 ≤ many ∧ many ≤ 10 ∧ ∀ names : List Str, names.length = many.toNat → (∀ z ∈ names, nameOk z = true) → names.Nodup → Q (.lst (names.map .str)) M
  | _ => False
theorem len_l_people : ∀ ds M Q X, m_l_people ds M Q X → ds.length = 2 := fun ds M Q X h => by
  unfold m_l_people at h
  split at h <;> first | rfl | exact h.elim
theorem nodup_of {n : Nat} (g : Nat → Str) (hi : ∀ i j, i < n → j < n → g i = g j → i = j) : ((List.range n).map g).Nodup := by
  show List.Pairwise (· ≠ ·) _
  rw [List.pairwise_map]
  refine List.Pairwise.imp_of_mem (R := (· < ·)) (fun {a b} ha hb hab e => ?_) List.pairwise_lt_range
  have := hi a b (List.mem_range.mp ha) (List.mem_range.mp hb) e
  omega
theorem people_fin {n : Nat} {many : Int} {M : Mem} {Q : QD} (hn : n = many.toNat) (h : ∀ names : List Str, names.length = many.toNat → (∀ z ∈ names, nameOk z = true) → names.Nodup → Q (.lst (names.map .str)) M) (g : Nat → Str) (hi : ∀ i j, i < n → j < n → g i = g j → i = j) (hg : ∀ k, k < n → nameOk (g k) = true) :
    retD Q (.lst ((List.range n).map fun k => .str (g k))) M := by
  have := h ((List.range n).map g) (by rw [List.length_map, List.length_range]; exact hn) (fun z hz => by
    obtain ⟨k, hk, rfl⟩ := List.mem_map.mp hz
    exact hg k (List.mem_range.mp hk)) (nodup_of g hi)
  rw [List.map_map] at this
  exact retD_of this
theorem signs_inj : ∀ i j : Fin 36, (signsL[i.val]?).getD 0 = (signsL[j.val]?).getD 0 → i = j := by decide +kernel
theorem signAt_inj {a b : Int} (h : signAt a = signAt b) : a % 36 = b % 36 := by
  have a1 := Int.emod_nonneg a (show (36 : Int) ≠ 0 by decide)
  have a2 := Int.emod_lt_of_pos a (show (0 : Int) < 36 by decide)
  have b1 := Int.emod_nonneg b (show (36 : Int) ≠ 0 by decide)
  have b2 := Int.emod_lt_of_pos b (show (0 : Int) < 36 by decide)
  have := signs_inj ⟨(a % 36).toNat, by omega⟩ ⟨(b % 36).toNat, by omega⟩ h
  have := congrArg Fin.val this
  simp only at this
  omega
theorem num_inj : ∀ i j : Fin 10, Str.ofString (toString ((i.val : Nat) : Int)) = Str.ofString (toString ((j.val : Nat) : Int)) → i = j := by decide +kernel
theorem app_left_inj {x a b : Str} (h : x ++ a = x ++ b) : a.cps.toList = b.cps.toList := by
  have := congrArg (fun s : Str => s.cps.toList) h
  simp only [app_list] at this
  exact List.append_cancel_left this
theorem str_ext {a b : Str} (h : a.cps.toList = b.cps.toList) : a = b := by
  obtain ⟨⟨x⟩⟩ := a
  obtain ⟨⟨y⟩⟩ := b
  simp only at h
  rw [h]
theorem read_l_people : ∀ ds M Q X, m_l_people ds M Q X → t_l_people (bodyE Q X) (startD 9 ds) M := by
  intro ds M Q X h
  unfold m_l_people at h
  split at h
  rotate_left
  · exact h.elim
  rename_i c many
  obtain ⟨h0, h99, h⟩ := h
  unfold t_l_people t_l_people_1 t_l_people_2 t_l_people_3
  walk_at "dl"
  have hr : (rangeD 0 (Int.toNat 12)).length = 12 := by decide
  have sl : sizeLine = 16777216 := sizeLine_eq
  refine ⟨fun k δ M' => M' = M ∧ ∃ (z : Str) (r : Int) (o : Option D), good z ∧ z.length = k ∧ δ = [some (.int c), some (.int many), some (.str (Str.ofString "abcdefghijklmnopqrstuvwxyz0123456789")), some (.str z), some (.int r), o, none, none, none], ⟨rfl, _, _, _, (by intro x hx; cases hx), (by decide +kernel), rfl⟩, ?_, ?_⟩
  · rintro k x δ M' hx ⟨rfl, z, r, o, hg, hz, rfl⟩
    refine ⟨trivial, ?_⟩
    have hk := (List.getElem?_eq_some_iff.mp hx).1
    rw [hr] at hk
    unfold t_l_people_L1 t_l_people_L1_1
    walk_at "dl"
    rw [show (Str.ofString "abcdefghijklmnopqrstuvwxyz0123456789").cps.toList = signsL from rfl, nth_sign]
    refine ⟨by show z.length + 1 ≤ sizeLine; omega, z ++ ⟨#[signAt r]⟩, _, _, good_app hg (good_one _), by rw [len_append, hz]; rfl, rfl⟩
  · rintro δ M' ⟨rfl, z, r, o, hg, hz, rfl⟩
    rw [hr] at hz
    refine ⟨trivial, ?_⟩
    unfold t_l_people_4 t_l_people_5
    walk_at "dl"
    have m6 := Int.emod_nonneg c (show (6 : Int) ≠ 0 by decide)
    have e6 : ∀ {A B : Prop} (w : Int), (c % 6 = w → many < 13 → A) → B → cond (decide (c % 6 = w)) (cond (decide (many < 13)) A B) B := fun {A B} w hA hB =>
      cond_dec (fun h1 => cond_dec (fun h2 => hA h1 h2) fun _ => hB) fun _ => hB
    refine e6 0 (fun _ h13 => ⟨by omega, by omega, lc_rangeD (fun k => .str (cutS z none (some ((k : Int) + 1)))) (fun k hk M1 hs Qd q => ?_) ?_⟩) ?_
    · walk_at "dl"
      exact q
    · refine people_fin rfl h _ (fun i j hi hj e => ?_) fun k hk => ?_
      · have e := congrArg Str.length e
        have l1 := cut_hi_len z (k := (i : Int) + 1) (by omega)
        have l2 := cut_hi_len z (k := (j : Int) + 1) (by omega)
        omega
      have := cut_hi_len z (k := (k : Int) + 1) (by omega)
      exact nameOk_of (by omega) (by omega) (good_cut hg _ _)
    unfold t_l_people_6
    walk_at "dl"
    refine e6 1 (fun _ h13 => ⟨by omega, by omega, lc_rangeD (fun k => .str (cutS z (some (11 - (k : Int))) none)) (fun k hk M1 hs Qd q => ?_) ?_⟩) ?_
    · walk_at "dl"
      exact q
    · refine people_fin rfl h _ (fun i j hi hj e => ?_) fun k hk => ?_
      · have e := congrArg Str.length e
        have l1 := cut_lo_len z (k := 11 - (i : Int)) (by omega)
        have l2 := cut_lo_len z (k := 11 - (j : Int)) (by omega)
        omega
      have := cut_lo_len z (k := 11 - (k : Int)) (by omega)
      exact nameOk_of (by omega) (by omega) (good_cut hg _ _)
    unfold t_l_people_7 t_l_people_8
    walk_at "dl"
    have p1 := Int.emod_nonneg (c / 6) (show (12 : Int) ≠ 0 by decide)
    have p2 := Int.emod_lt_of_pos (c / 6) (show (0 : Int) < 12 by decide)
    have hl1 := cut_hi_len z p1
    have hg1 := good_cut hg none (some (c / 6 % 12))
    generalize cutS z none (some (c / 6 % 12)) = y at hl1 hg1 ⊢
    have rest : t_l_people_9 (bodyE Q X) [some (.int c), some (.int many), some (.str (Str.ofString "abcdefghijklmnopqrstuvwxyz0123456789")), some (.str y), some (.int r), o, some (.int (c % 6)), none, none] M' := by
      unfold t_l_people_9 t_l_people_10
      walk_at "dl"
      have h9 : decide (99 < many) = false := decide_eq_false (by omega)
      rw [h9]
      have hl2 := cut_hi_len y (k := 10 - cond false 1 0) (by decide)
      have hg2 := good_cut hg1 none (some (10 - cond false 1 0))
      have e10 : (10 - cond false (1 : Int) 0) = 10 := by decide
      rw [e10] at hl2 hg2 ⊢
      generalize cutS y none (some 10) = x at hl2 hg2 ⊢
      have t10 : Int.toNat 10 = 10 := rfl
      rw [t10] at hl2
      refine ⟨by omega, by omega, lc_rangeD (fun k => .str (x ++ Str.ofString (toString (k : Int)))) (fun k hk M1 hs Qd q => ?_) ?_⟩
      · have hk2 := num_good (n := k) (by omega)
        walk_at "dl"
        refine ⟨by omega, by omega, ?_, q⟩
        show x.length + (Str.ofString (toString (k : Int))).length ≤ sizeLine
        omega
      · refine people_fin rfl h (fun k => x ++ Str.ofString (toString (k : Int))) (fun i j hi hj e => ?_) fun k hk => ?_
        · have e2 := num_inj ⟨i, by omega⟩ ⟨j, by omega⟩ (str_ext (app_left_inj e))
          exact congrArg Fin.val e2
        have hk2 := num_good (n := k) (by omega)
        refine nameOk_of ?_ ?_ (good_app hg2 hk2.1)
        · rw [len_append]; omega
        · rw [len_append]; omega
    refine cond_dec (fun h4 => cond_dec (fun h37 => ?_) fun _ => rest) fun _ => rest
    have q0 : (0 : Int) < (y.length : Int) + 1 := by omega
    have q1 := Int.emod_nonneg (c / 5) (show (y.length : Int) + 1 ≠ 0 by omega)
    have q2 := Int.emod_lt_of_pos (c / 5) q0
    have hl2 := cut_hi_len y q1
    have hg2 := good_cut hg1 none (some (c / 5 % ((y.length : Int) + 1)))
    generalize cutS y none (some (c / 5 % ((y.length : Int) + 1))) = u at hl2 hg2 ⊢
    have hl3 := cut_lo_len y (k := (u.length : Int)) (by omega)
    have hg3 := good_cut hg1 (some (u.length : Int)) none
    generalize cutS y (some (u.length : Int)) none = v at hl3 hg3 ⊢
    rw [Int.toNat_natCast] at hl3
    refine ⟨q0, by omega, by omega, lc_rangeD (fun k => .str (u ++ ⟨#[signAt (c / 7 + 7 * (k : Int))]⟩ ++ v)) (fun k hk M1 hs Qd q => ?_) ?_⟩
    · walk_at "dl"
      refine ⟨.inl ⟨by decide, by decide⟩, ?_⟩
      rw [show (Str.ofString "abcdefghijklmnopqrstuvwxyz0123456789").cps.toList = signsL from rfl, nth_sign]
      refine ⟨by show u.length + 1 ≤ sizeLine; omega, ?_, q⟩
      rw [len_append]
      show u.length + 1 + v.length ≤ sizeLine
      omega
    · refine people_fin rfl h (fun k => u ++ ⟨#[signAt (c / 7 + 7 * (k : Int))]⟩ ++ v) (fun i j hi hj e => ?_) fun k hk => ?_
      · have e2 := congrArg (fun s : Str => s.cps.toList) e
        simp only [app_list, List.append_assoc] at e2
        have e3 := List.append_cancel_left e2
        have e4 : signAt (c / 7 + 7 * (i : Int)) = signAt (c / 7 + 7 * (j : Int)) := (List.cons.inj e3).1
        have e5 := signAt_inj e4
        omega
      have e1 : (u ++ (⟨#[signAt (c / 7 + 7 * (k : Int))]⟩ : Str) ++ v).length = u.length + 1 + v.length := by
        rw [len_append, len_append]; rfl
      refine nameOk_of ?_ ?_ (good_app (good_app hg2 (good_one _)) hg3)
      · omega
      · omega
-- SIMP m_l_people

local macro_rules | `(tactic| walk_at "dl") => `(tactic| try simp -implicitDefEqProofs only [DL.dNext, DL.dSeq, DL.dExpr, DL.dRet, DL.dIfS, DL.dSet, DL.dCont, DL.dRaise, DL.dFor, DL.dgName, DL.dgPair, DL.dTry, DL.dFn, DL.dMth, DL.dMk, DL.dFld, DL.dFldS, DL.dPut, DL.dVar, DL.slot, DL.dC, DL.dOp, DL.dUn, DL.oSub, DL.oMul, DL.oDiv, DL.oMod, DL.oPow, DL.oLt, DL.oLe, DL.oGt, DL.oGe, DL.oEq, DL.oNe, DL.oIn, DL.oNotIn, DL.dB, DL.dIsN, DL.dChain, DL.dAnd, DL.dOr, DL.dNot, DL.dAndV, DL.dOrV, DL.dNotV, DL.dIf, DL.dNil, DL.dCons, DL.few, DL.dLst, DL.dTup, DL.dLstM, DL.dFrz, DL.dPairs, DL.dDisp, DL.dDic0, DL.dSl, DL.dNoPart, DL.dCall, DL.dMet0L, DL.dMet, DL.dItems, DL.dRange1, DL.dEnum, DL.dLcM, DL.dwipe, DL.startD, DL.dNever, DL.el_some, DL.elL_lst, DL.elD_dic, DL.elI_ins, DL.res_non, DL.res_bl, DL.res_int, DL.res_str, DL.res_lst, DL.res_tupE, DL.res_dic, DL.res_scr, DL.res_ty, DL.oAdd_eq, DL.addR_int, DL.addR_str, DL.addR_lst, DL.addR_tup, DL.oAddM_eq, DL.addMR_lst, DL.oInt_eq, DL.intR_int, DL.oInt0_eq, DL.int0R_int, DL.oNeg_eq, DL.negR_int, DL.oEqN_eq, DL.eqR_some, DL.eqR_none, DL.eqS_non_non, DL.eqS_non_int, DL.eqS_non_bl, DL.eqS_non_str, DL.eqS_non_lst, DL.eqS_non_tup, DL.eqS_int_non, DL.eqS_int_int, DL.eqS_int_bl, DL.eqS_int_str, DL.eqS_int_lst, DL.eqS_int_tup, DL.eqS_bl_non, DL.eqS_bl_int, DL.eqS_bl_bl, DL.eqS_bl_str, DL.eqS_bl_lst, DL.eqS_bl_tup, DL.eqS_str_non, DL.eqS_str_int, DL.eqS_str_bl, DL.eqS_str_str, DL.eqS_str_lst, DL.eqS_str_tup, DL.eqS_lst_non, DL.eqS_lst_int, DL.eqS_lst_bl, DL.eqS_lst_str, DL.eqS_lst_lst, DL.eqS_lst_tup, DL.eqS_tup_non, DL.eqS_tup_int, DL.eqS_tup_bl, DL.eqS_tup_str, DL.eqS_tup_lst, DL.eqS_tup_tup, DL.eqS_obj_non, DL.eqS_non_obj, DL.eqS_obj_int, DL.eqS_int_obj, DL.eqS_obj_bl, DL.eqS_bl_obj, DL.eqS_obj_str, DL.eqS_str_obj, DL.eqS_obj_lst, DL.eqS_lst_obj, DL.eqS_obj_tup, DL.eqS_tup_obj, DL.eqS_obj_obj, DL.oInN_eq, DL.inR_lst, DL.inR_tup, DL.inR_str, DL.flatD_non, DL.flatD_bl, DL.flatD_int, DL.flatD_str, DL.asB_bl, DL.isN_non, DL.isN_bl, DL.isN_int, DL.isN_str, DL.isN_lst, DL.isN_tup, DL.isN_dic, DL.isN_scr, DL.isN_ty, DL.isN_obj, DL.frz_non, DL.frz_bl, DL.frz_int, DL.frz_str, DL.frz_lst, DL.frz_tup, DL.frz_dic, DL.frz_scr, DL.frz_ty, DL.oIx_eq, DL.ixR_lst, DL.ixR_tup, DL.ixR_scr, DL.ixR_str, DL.ixR_dic, DL.nth_0, DL.nth_1, DL.nth_2, DL.nth_3, DL.oSl_eq, DL.slR_lst, DL.slR_tup, DL.slR_str, DL.dPart_eq, DL.partR_int, DL.on1_cons, DL.on2_cons, DL.lenD_lst, DL.lenD_tup, DL.lenD_scr, DL.lenD_str, DL.intD_int, DL.intD_bl, DL.strD_int, DL.int2_int, DL.listM_lst, DL.listF_lst, DL.listM_tup, DL.listF_tup, DL.dictM_dic, DL.isiD_ty, DL.oAppend_obj, DL.oInsert_obj, DL.oPop_obj, DL.oPopAt_obj, DL.isLst_eq, DL.isLstR_lst, DL.isStr_str, DL.oSplit_str, DL.oJoin_str, DL.itemsOf_lst, DL.itemsOf_tup, DL.itemsOf_str, DL.rng1_int, DL.enumOf_lst, DL.two_tup, DL.insIs_obj, DL.getFld_obj, DL.setFld_obj, DL.putDic_obj, DL.isB_str_non, DL.isB_str_bl, DL.isB_str_int, DL.isB_str_str, DL.isB_str_lst, DL.isB_str_tup, DL.isB_str_dic, DL.isB_int_non, DL.isB_int_bl, DL.isB_int_int, DL.isB_int_str, DL.isB_int_lst, DL.isB_int_tup, DL.isB_int_dic, DL.isB_bool_non, DL.isB_bool_bl, DL.isB_bool_int, DL.isB_bool_str, DL.isB_bool_lst, DL.isB_bool_tup, DL.isB_bool_dic, DL.isB_list_non, DL.isB_list_bl, DL.isB_list_int, DL.isB_list_str, DL.isB_list_lst, DL.isB_list_tup, DL.isB_list_dic, DL.isB_tuple_non, DL.isB_tuple_bl, DL.isB_tuple_int, DL.isB_tuple_str, DL.isB_tuple_lst, DL.isB_tuple_tup, DL.isB_tuple_dic, Bool.cond_true, Bool.cond_false, L2.CDiv, Int.reduceLT, Int.reduceLE, true_and, and_true, cond_true, cond_false, List.map_cons, List.map_nil, List.set_cons_zero, List.set_cons_succ, List.set_nil, DL.cpow_109, DL.pow_109, DL.frz_set_lst, DL.frz_set_dic, Bool.not_true, Bool.not_false, DL.itemsOf_obj, DL.enumOf_obj, DL.all_still, okD_non, okD_bl, okD_int, okD_str, okD_lst, okD_tup, okD_dic, res_set_lst, Mem.set_same, Mem.set_set, lk_seats, lk_patience, lk_reading, lk_alone, lk_asking, lk_waiting, lk_rows, no_is_inside, no_is_waiting, no_look, no_come, no_leave, no_ask, no_ease, no_settled, no_begun, no_readers, no_writer, no_asker, no_line, no_passed, no_journal, dp_reading, dp_reading0, dp_reading1, dp_alone, dp_alone0, dp_asking, dp_asking0, dp_waiting, dp_rows, few_flds, eNames, isN_optS, res_optS, optS_some, optS_none, Option.isNone_none, Option.isNone_some, m_l_people])
/-! ### _law_cell_at(_law_script, _law_k): 0 _law_script, 1 _law_k -/
def t_l_cell_at_1  : DSt :=
  (dRet (dC (.int 0)))
def t_l_cell_at  : DSt :=
  (dSeq (dIfS (dB (dOp oLt (dVar 1) (dCall (on1 lenD) (dCons (dVar 0) dNil)))) (dRet (dOp oIx (dVar 0) (dVar 1))) dNext)
  t_l_cell_at_1)
local macro_rules | `(tactic| walk_at "un") => `(tactic| simp only [t_l_cell_at_1, t_l_cell_at])
def m_l_cell_at : FDm := fun ds M Q _ => match ds with
  | [.scr ns, .int k] => 0 ≤ k ∧ Q (.int (cellAt ns k)) M
  | _ => False
theorem len_l_cell_at : ∀ ds M Q X, m_l_cell_at ds M Q X → ds.length = 2 := fun ds M Q X h => by
  unfold m_l_cell_at at h
  split at h <;> first | rfl | exact h.elim
theorem read_l_cell_at : ∀ ds M Q X, m_l_cell_at ds M Q X → t_l_cell_at (bodyE Q X) (startD 2 ds) M := by
  intro ds M Q X h
  unfold m_l_cell_at at h
  split at h
  · rename_i ns k
    obtain ⟨h0, h⟩ := h
    walk_at "un"
    walk_at "dl"
    unfold cellAt at h
    refine cond_dec (fun hx => ?_) fun hx => ?_
    · have hk : k.toNat < ns.length := by omega
      rw [nth_toNat _ h0, List.getElem?_eq_getElem hk]
      rw [List.getElem?_eq_getElem hk] at h
      exact retD_of h
    · have hk : ns.length ≤ k.toNat := by omega
      rw [List.getElem?_eq_none hk] at h
      exact retD_of h
  · exact h.elim
-- SIMP m_l_cell_at Int.reduceLE

local macro_rules | `(tactic| walk_at "dl") => `(tactic| try simp -implicitDefEqProofs only [DL.dNext, DL.dSeq, DL.dExpr, DL.dRet, DL.dIfS, DL.dSet, DL.dCont, DL.dRaise, DL.dFor, DL.dgName, DL.dgPair, DL.dTry, DL.dFn, DL.dMth, DL.dMk, DL.dFld, DL.dFldS, DL.dPut, DL.dVar, DL.slot, DL.dC, DL.dOp, DL.dUn, DL.oSub, DL.oMul, DL.oDiv, DL.oMod, DL.oPow, DL.oLt, DL.oLe, DL.oGt, DL.oGe, DL.oEq, DL.oNe, DL.oIn, DL.oNotIn, DL.dB, DL.dIsN, DL.dChain, DL.dAnd, DL.dOr, DL.dNot, DL.dAndV, DL.dOrV, DL.dNotV, DL.dIf, DL.dNil, DL.dCons, DL.few, DL.dLst, DL.dTup, DL.dLstM, DL.dFrz, DL.dPairs, DL.dDisp, DL.dDic0, DL.dSl, DL.dNoPart, DL.dCall, DL.dMet0L, DL.dMet, DL.dItems, DL.dRange1, DL.dEnum, DL.dLcM, DL.dwipe, DL.startD, DL.dNever, DL.el_some, DL.elL_lst, DL.elD_dic, DL.elI_ins, DL.res_non, DL.res_bl, DL.res_int, DL.res_str, DL.res_lst, DL.res_tupE, DL.res_dic, DL.res_scr, DL.res_ty, DL.oAdd_eq, DL.addR_int, DL.addR_str, DL.addR_lst, DL.addR_tup, DL.oAddM_eq, DL.addMR_lst, DL.oInt_eq, DL.intR_int, DL.oInt0_eq, DL.int0R_int, DL.oNeg_eq, DL.negR_int, DL.oEqN_eq, DL.eqR_some, DL.eqR_none, DL.eqS_non_non, DL.eqS_non_int, DL.eqS_non_bl, DL.eqS_non_str, DL.eqS_non_lst, DL.eqS_non_tup, DL.eqS_int_non, DL.eqS_int_int, DL.eqS_int_bl, DL.eqS_int_str, DL.eqS_int_lst, DL.eqS_int_tup, DL.eqS_bl_non, DL.eqS_bl_int, DL.eqS_bl_bl, DL.eqS_bl_str, DL.eqS_bl_lst, DL.eqS_bl_tup, DL.eqS_str_non, DL.eqS_str_int, DL.eqS_str_bl, DL.eqS_str_str, DL.eqS_str_lst, DL.eqS_str_tup, DL.eqS_lst_non, DL.eqS_lst_int, DL.eqS_lst_bl, DL.eqS_lst_str, DL.eqS_lst_lst, DL.eqS_lst_tup, DL.eqS_tup_non, DL.eqS_tup_int, DL.eqS_tup_bl, DL.eqS_tup_str, DL.eqS_tup_lst, DL.eqS_tup_tup, DL.eqS_obj_non, DL.eqS_non_obj, DL.eqS_obj_int, DL.eqS_int_obj, DL.eqS_obj_bl, DL.eqS_bl_obj, DL.eqS_obj_str, DL.eqS_str_obj, DL.eqS_obj_lst, DL.eqS_lst_obj, DL.eqS_obj_tup, DL.eqS_tup_obj, DL.eqS_obj_obj, DL.oInN_eq, DL.inR_lst, DL.inR_tup, DL.inR_str, DL.flatD_non, DL.flatD_bl, DL.flatD_int, DL.flatD_str, DL.asB_bl, DL.isN_non, DL.isN_bl, DL.isN_int, DL.isN_str, DL.isN_lst, DL.isN_tup, DL.isN_dic, DL.isN_scr, DL.isN_ty, DL.isN_obj, DL.frz_non, DL.frz_bl, DL.frz_int, DL.frz_str, DL.frz_lst, DL.frz_tup, DL.frz_dic, DL.frz_scr, DL.frz_ty, DL.oIx_eq, DL.ixR_lst, DL.ixR_tup, DL.ixR_scr, DL.ixR_str, DL.ixR_dic, DL.nth_0, DL.nth_1, DL.nth_2, DL.nth_3, DL.oSl_eq, DL.slR_lst, DL.slR_tup, DL.slR_str, DL.dPart_eq, DL.partR_int, DL.on1_cons, DL.on2_cons, DL.lenD_lst, DL.lenD_tup, DL.lenD_scr, DL.lenD_str, DL.intD_int, DL.intD_bl, DL.strD_int, DL.int2_int, DL.listM_lst, DL.listF_lst, DL.listM_tup, DL.listF_tup, DL.dictM_dic, DL.isiD_ty, DL.oAppend_obj, DL.oInsert_obj, DL.oPop_obj, DL.oPopAt_obj, DL.isLst_eq, DL.isLstR_lst, DL.isStr_str, DL.oSplit_str, DL.oJoin_str, DL.itemsOf_lst, DL.itemsOf_tup, DL.itemsOf_str, DL.rng1_int, DL.enumOf_lst, DL.two_tup, DL.insIs_obj, DL.getFld_obj, DL.setFld_obj, DL.putDic_obj, DL.isB_str_non, DL.isB_str_bl, DL.isB_str_int, DL.isB_str_str, DL.isB_str_lst, DL.isB_str_tup, DL.isB_str_dic, DL.isB_int_non, DL.isB_int_bl, DL.isB_int_int, DL.isB_int_str, DL.isB_int_lst, DL.isB_int_tup, DL.isB_int_dic, DL.isB_bool_non, DL.isB_bool_bl, DL.isB_bool_int, DL.isB_bool_str, DL.isB_bool_lst, DL.isB_bool_tup, DL.isB_bool_dic, DL.isB_list_non, DL.isB_list_bl, DL.isB_list_int, DL.isB_list_str, DL.isB_list_lst, DL.isB_list_tup, DL.isB_list_dic, DL.isB_tuple_non, DL.isB_tuple_bl, DL.isB_tuple_int, DL.isB_tuple_str, DL.isB_tuple_lst, DL.isB_tuple_tup, DL.isB_tuple_dic, Bool.cond_true, Bool.cond_false, L2.CDiv, Int.reduceLT, Int.reduceLE, true_and, and_true, cond_true, cond_false, List.map_cons, List.map_nil, List.set_cons_zero, List.set_cons_succ, List.set_nil, DL.cpow_109, DL.pow_109, DL.frz_set_lst, DL.frz_set_dic, Bool.not_true, Bool.not_false, DL.itemsOf_obj, DL.enumOf_obj, DL.all_still, okD_non, okD_bl, okD_int, okD_str, okD_lst, okD_tup, okD_dic, res_set_lst, Mem.set_same, Mem.set_set, lk_seats, lk_patience, lk_reading, lk_alone, lk_asking, lk_waiting, lk_rows, no_is_inside, no_is_waiting, no_look, no_come, no_leave, no_ask, no_ease, no_settled, no_begun, no_readers, no_writer, no_asker, no_line, no_passed, no_journal, dp_reading, dp_reading0, dp_reading1, dp_alone, dp_alone0, dp_asking, dp_asking0, dp_waiting, dp_rows, few_flds, eNames, isN_optS, res_optS, optS_some, optS_none, Option.isNone_none, Option.isNone_some, m_l_people, m_l_cell_at, Int.reduceLE])
/-! ### _law_no_name(_law_cell, _law_name): 0 _law_cell, 1 _law_name, 2 _law_some -/
def t_l_no_name_2  : DSt :=
  (dRet (dOp oIx (dVar 2) (dOp oMod (dVar 0) (dC (.int 13)))))
def t_l_no_name_1  : DSt :=
  (dSeq (dSet 2 (dOp oAdd (dVar 2) (dLst (dCons (dFrz (dDis1 (dVar 1) (dVar 1))) (dCons (dOp oAdd (dSl (dVar 1) dNoPart (dPart (dC (.int 11)))) (dC (.str "\t"))) dNil)))))
  t_l_no_name_2)
def t_l_no_name  : DSt :=
  (dSeq (dSet 2 (dLst (dCons (dC (.str "")) (dCons (dC (.str "A")) (dCons (dC .non) (dCons (dOp oAdd (dVar 1) (dC (.str "-"))) (dCons (dLst (dCons (dVar 1) dNil)) (dCons (dC (.bl true)) (dCons (dC (.int 0)) (dCons (dTup (dCons (dVar 1) dNil)) (dCons dDic0 (dCons (dOp oAdd (dVar 1) (dC (.str "abcdefghijkl"))) (dCons (dOp oAdd (dC (.str " ")) (dVar 1)) dNil)))))))))))))
  t_l_no_name_1)
local macro_rules | `(tactic| walk_at "un") => `(tactic| simp only [t_l_no_name_2, t_l_no_name_1, t_l_no_name])
def m_l_no_name : FDm := fun ds M Q _ => ∃ (c : Int) (z : Str), ds = [.int c, .str z] ∧ nameOk z = true ∧ ∀ d, okD d = true → isName d = false → Q d M
theorem len_l_no_name : ∀ ds M Q X, m_l_no_name ds M Q X → ds.length = 2 := fun ds M Q X ⟨_, _, h, _⟩ => by subst h; rfl
theorem bad_sign {z : Str} {c : Nat} (h : c ∈ z.cps.toList) (hc : c ∉ signsL) : nameOk z = false := by
  cases e : nameOk z with
  | false => rfl
  | true => exact absurd ((nameOk_good e).1 c h) hc
theorem bad_len {z : Str} (h : 12 < z.length) : nameOk z = false := by
  cases e : nameOk z with
  | false => rfl
  | true => have := (nameOk_good e).2.2; omega
theorem read_l_no_name : ∀ ds M Q X, m_l_no_name ds M Q X → t_l_no_name (bodyE Q X) (startD 3 ds) M := by
  rintro ds M Q X ⟨c, z, rfl, hz, h⟩
  obtain ⟨hg, z1, z2⟩ := nameOk_good hz
  unfold t_l_no_name
  walk_at "dl"
  have l1 : (Str.ofString "-").length = 1 := by decide +kernel
  have l2 : (Str.ofString "abcdefghijkl").length = 12 := by decide +kernel
  have l3 : (Str.ofString " ").length = 1 := by decide +kernel
  have l4 : (Str.ofString "\t").length = 1 := by decide +kernel
  have sl : sizeLine = 16777216 := sizeLine_eq
  refine ⟨by omega, by omega, by omega, ?_⟩
  unfold t_l_no_name_1
  walk_at "dl"
  intro p hp
  refine ⟨z, rfl, ?_⟩
  walk_at "dl"
  have hc := cut_hi_len z (k := 11) (by decide)
  generalize cutS z none (some 11) = y at hc ⊢
  refine ⟨by omega, by rw [sl]; show 11 + 2 ≤ _; omega, ?_⟩
  rw [Mem.del_set hp]
  unfold t_l_no_name_2
  walk_at "dl"
  have b1 : nameOk (Str.ofString "") = false := by decide +kernel
  have b2 : nameOk (Str.ofString "A") = false := by decide +kernel
  have b3 : nameOk (z ++ Str.ofString "-") = false := bad_sign (c := 45) (by rw [app_list]; exact List.mem_append.mpr (.inr (by decide +kernel))) (by decide +kernel)
  have b4 : nameOk (z ++ Str.ofString "abcdefghijkl") = false := bad_len (by rw [len_append]; omega)
  have b5 : nameOk (Str.ofString " " ++ z) = false := bad_sign (c := 32) (by rw [app_list]; exact List.mem_append.mpr (.inl (by decide +kernel))) (by decide +kernel)
  have b6 : nameOk (y ++ Str.ofString "\t") = false := bad_sign (c := 9) (by rw [app_list]; exact List.mem_append.mpr (.inr (by decide +kernel))) (by decide +kernel)
  have all : ∀ d ∈ ([D.str (Str.ofString ""), D.str (Str.ofString "A"), D.non, D.str (z ++ Str.ofString "-"), D.lst [D.str z], D.bl true, D.int 0, D.tup [D.str z], D.dic [], D.str (z ++ Str.ofString "abcdefghijkl"), D.str (Str.ofString " " ++ z)] ++ [D.dic [(z, D.str z)], D.str (y ++ Str.ofString "\t")] : List D), okD d = true ∧ isName d = false := fun d hd => by
    simp only [List.cons_append, List.nil_append, List.mem_cons, List.not_mem_nil, or_false] at hd
    rcases hd with rfl | rfl | rfl | rfl | rfl | rfl | rfl | rfl | rfl | rfl | rfl | rfl | rfl
    · exact ⟨rfl, b1⟩
    · exact ⟨rfl, b2⟩
    · exact ⟨rfl, rfl⟩
    · exact ⟨rfl, b3⟩
    · exact ⟨rfl, rfl⟩
    · exact ⟨rfl, rfl⟩
    · exact ⟨rfl, rfl⟩
    · exact ⟨rfl, rfl⟩
    · exact ⟨rfl, rfl⟩
    · exact ⟨rfl, b4⟩
    · exact ⟨rfl, b5⟩
    · exact ⟨rfl, rfl⟩
    · exact ⟨rfl, b6⟩
  generalize hL : ([D.str (Str.ofString ""), D.str (Str.ofString "A"), D.non, D.str (z ++ Str.ofString "-"), D.lst [D.str z], D.bl true, D.int 0, D.tup [D.str z], D.dic [], D.str (z ++ Str.ofString "abcdefghijkl"), D.str (Str.ofString " " ++ z)] ++ [D.dic [(z, D.str z)], D.str (y ++ Str.ofString "\t")] : List D) = L at all ⊢
  obtain ⟨d, hd, en⟩ := nth_mod L c 13 (by rw [← hL]; rfl) (by decide)
  rw [show nth L (c % 13) = some d from en, el_some]
  exact retD_of (h d (all d hd).1 (all d hd).2)

/-! ### _law_no_wish(_law_cell): 0 _law_cell -/
def t_l_no_wish  : DSt :=
  (dRet (dOp oIx (dLst (dCons (dC (.str "reads")) (dCons (dC .non) (dCons (dLst dNil) (dCons (dC (.bl true)) (dCons (dTup (dCons (dC (.str "read")) dNil)) (dCons (dC (.str "Write")) (dCons (dC (.str "")) (dCons (dFrz (dDisp [("read", (dC (.int 1)))])) (dCons (dC (.int 1)) (dCons (dC (.str "read ")) dNil))))))))))) (dOp oMod (dVar 0) (dC (.int 10)))))
local macro_rules | `(tactic| walk_at "un") => `(tactic| simp only [t_l_no_wish])
def m_l_no_wish : FDm := fun ds M Q _ => ∃ c : Int, ds = [.int c] ∧ ∀ d, okD d = true → isWish d = false → Q d M
theorem len_l_no_wish : ∀ ds M Q X, m_l_no_wish ds M Q X → ds.length = 1 := fun ds M Q X ⟨_, h, _⟩ => by subst h; rfl
theorem read_l_no_wish : ∀ ds M Q X, m_l_no_wish ds M Q X → t_l_no_wish (bodyE Q X) (startD 1 ds) M := by
  rintro ds M Q X ⟨c, rfl, h⟩
  unfold t_l_no_wish
  walk_at "dl"
  intro p hp
  refine ⟨List.nodup_cons.mpr ⟨by simp, List.nodup_nil⟩, ?_⟩
  obtain ⟨d, hd, en⟩ := nth_mod [D.str (Str.ofString "reads"), D.non, D.lst [], D.bl true, D.tup [D.str (Str.ofString "read")], D.str (Str.ofString "Write"), D.str (Str.ofString ""), D.dic [(Str.ofString "read", D.int 1)], D.int 1, D.str (Str.ofString "read ")] c 10 rfl (by decide)
  rw [show nth [D.str (Str.ofString "reads"), D.non, D.lst [], D.bl true, D.tup [D.str (Str.ofString "read")], D.str (Str.ofString "Write"), D.str (Str.ofString ""), D.dic [(Str.ofString "read", D.int 1)], D.int 1, D.str (Str.ofString "read ")] (c % 10) = some d from en, el_some, Mem.del_set hp]
  have hd2 : okD d = true ∧ isWish d = false := by
    simp only [List.mem_cons, List.not_mem_nil, or_false] at hd
    rcases hd with rfl | rfl | rfl | rfl | rfl | rfl | rfl | rfl | rfl | rfl <;> exact ⟨rfl, by first | rfl | decide +kernel⟩
  exact retD_of (h d hd2.1 hd2.2)

/-! ### is_number(thing, least): 0 thing, 1 least -/
def t_is_number  : DSt :=
  (dRet (dAndV (dCall (on2 isiD) (dCons (dVar 0) (dCons (dC (.ty "int")) dNil))) (dAndV (dNotV (dCall (on2 isiD) (dCons (dVar 0) (dCons (dC (.ty "bool")) dNil)))) (dChain oLe oLe (dVar 1) (dVar 0) (dC (.int 1000000000))))))
local macro_rules | `(tactic| walk_at "un") => `(tactic| simp only [t_is_number])
def isNum (d : D) (l : Int) : Bool := match d with
  | .int i => decide (l ≤ i) && decide (i ≤ 1000000000)
  | _ => false
def m_is_number : FDm := fun ds M Q _ => match ds with
  | [d, .int l] => okD d = true ∧ Q (.bl (isNum d l)) M
  | _ => False
theorem len_is_number : ∀ ds M Q X, m_is_number ds M Q X → ds.length = 2 := fun ds M Q X h => by
  unfold m_is_number at h
  split at h <;> first | rfl | exact h.elim
theorem read_is_number : ∀ ds M Q X, m_is_number ds M Q X → t_is_number (bodyE Q X) (startD 2 ds) M := by
  intro ds M Q X h
  unfold m_is_number at h
  split at h
  rotate_left
  · exact h.elim
  rename_i d l
  obtain ⟨hd, h⟩ := h
  walk_at "un"
  cases d with
  | scr b => cases hd
  | obj b => cases hd
  | ty b => cases hd
  | int i =>
    walk_at "dl"
    unfold isNum at h
    simp only at h
    refine cond_dec (fun e => ?_) fun e => ?_
    · rw [decide_eq_true e, Bool.true_and] at h
      exact retD_of h
    · rw [decide_eq_false e, Bool.false_and] at h
      exact retD_of h
  | _ =>
    walk_at "dl"
    exact retD_of h
-- SIMP m_is_number

local macro_rules | `(tactic| walk_at "dl") => `(tactic| try simp -implicitDefEqProofs only [DL.dNext, DL.dSeq, DL.dExpr, DL.dRet, DL.dIfS, DL.dSet, DL.dCont, DL.dRaise, DL.dFor, DL.dgName, DL.dgPair, DL.dTry, DL.dFn, DL.dMth, DL.dMk, DL.dFld, DL.dFldS, DL.dPut, DL.dVar, DL.slot, DL.dC, DL.dOp, DL.dUn, DL.oSub, DL.oMul, DL.oDiv, DL.oMod, DL.oPow, DL.oLt, DL.oLe, DL.oGt, DL.oGe, DL.oEq, DL.oNe, DL.oIn, DL.oNotIn, DL.dB, DL.dIsN, DL.dChain, DL.dAnd, DL.dOr, DL.dNot, DL.dAndV, DL.dOrV, DL.dNotV, DL.dIf, DL.dNil, DL.dCons, DL.few, DL.dLst, DL.dTup, DL.dLstM, DL.dFrz, DL.dPairs, DL.dDisp, DL.dDic0, DL.dSl, DL.dNoPart, DL.dCall, DL.dMet0L, DL.dMet, DL.dItems, DL.dRange1, DL.dEnum, DL.dLcM, DL.dwipe, DL.startD, DL.dNever, DL.el_some, DL.elL_lst, DL.elD_dic, DL.elI_ins, DL.res_non, DL.res_bl, DL.res_int, DL.res_str, DL.res_lst, DL.res_tupE, DL.res_dic, DL.res_scr, DL.res_ty, DL.oAdd_eq, DL.addR_int, DL.addR_str, DL.addR_lst, DL.addR_tup, DL.oAddM_eq, DL.addMR_lst, DL.oInt_eq, DL.intR_int, DL.oInt0_eq, DL.int0R_int, DL.oNeg_eq, DL.negR_int, DL.oEqN_eq, DL.eqR_some, DL.eqR_none, DL.eqS_non_non, DL.eqS_non_int, DL.eqS_non_bl, DL.eqS_non_str, DL.eqS_non_lst, DL.eqS_non_tup, DL.eqS_int_non, DL.eqS_int_int, DL.eqS_int_bl, DL.eqS_int_str, DL.eqS_int_lst, DL.eqS_int_tup, DL.eqS_bl_non, DL.eqS_bl_int, DL.eqS_bl_bl, DL.eqS_bl_str, DL.eqS_bl_lst, DL.eqS_bl_tup, DL.eqS_str_non, DL.eqS_str_int, DL.eqS_str_bl, DL.eqS_str_str, DL.eqS_str_lst, DL.eqS_str_tup, DL.eqS_lst_non, DL.eqS_lst_int, DL.eqS_lst_bl, DL.eqS_lst_str, DL.eqS_lst_lst, DL.eqS_lst_tup, DL.eqS_tup_non, DL.eqS_tup_int, DL.eqS_tup_bl, DL.eqS_tup_str, DL.eqS_tup_lst, DL.eqS_tup_tup, DL.eqS_obj_non, DL.eqS_non_obj, DL.eqS_obj_int, DL.eqS_int_obj, DL.eqS_obj_bl, DL.eqS_bl_obj, DL.eqS_obj_str, DL.eqS_str_obj, DL.eqS_obj_lst, DL.eqS_lst_obj, DL.eqS_obj_tup, DL.eqS_tup_obj, DL.eqS_obj_obj, DL.oInN_eq, DL.inR_lst, DL.inR_tup, DL.inR_str, DL.flatD_non, DL.flatD_bl, DL.flatD_int, DL.flatD_str, DL.asB_bl, DL.isN_non, DL.isN_bl, DL.isN_int, DL.isN_str, DL.isN_lst, DL.isN_tup, DL.isN_dic, DL.isN_scr, DL.isN_ty, DL.isN_obj, DL.frz_non, DL.frz_bl, DL.frz_int, DL.frz_str, DL.frz_lst, DL.frz_tup, DL.frz_dic, DL.frz_scr, DL.frz_ty, DL.oIx_eq, DL.ixR_lst, DL.ixR_tup, DL.ixR_scr, DL.ixR_str, DL.ixR_dic, DL.nth_0, DL.nth_1, DL.nth_2, DL.nth_3, DL.oSl_eq, DL.slR_lst, DL.slR_tup, DL.slR_str, DL.dPart_eq, DL.partR_int, DL.on1_cons, DL.on2_cons, DL.lenD_lst, DL.lenD_tup, DL.lenD_scr, DL.lenD_str, DL.intD_int, DL.intD_bl, DL.strD_int, DL.int2_int, DL.listM_lst, DL.listF_lst, DL.listM_tup, DL.listF_tup, DL.dictM_dic, DL.isiD_ty, DL.oAppend_obj, DL.oInsert_obj, DL.oPop_obj, DL.oPopAt_obj, DL.isLst_eq, DL.isLstR_lst, DL.isStr_str, DL.oSplit_str, DL.oJoin_str, DL.itemsOf_lst, DL.itemsOf_tup, DL.itemsOf_str, DL.rng1_int, DL.enumOf_lst, DL.two_tup, DL.insIs_obj, DL.getFld_obj, DL.setFld_obj, DL.putDic_obj, DL.isB_str_non, DL.isB_str_bl, DL.isB_str_int, DL.isB_str_str, DL.isB_str_lst, DL.isB_str_tup, DL.isB_str_dic, DL.isB_int_non, DL.isB_int_bl, DL.isB_int_int, DL.isB_int_str, DL.isB_int_lst, DL.isB_int_tup, DL.isB_int_dic, DL.isB_bool_non, DL.isB_bool_bl, DL.isB_bool_int, DL.isB_bool_str, DL.isB_bool_lst, DL.isB_bool_tup, DL.isB_bool_dic, DL.isB_list_non, DL.isB_list_bl, DL.isB_list_int, DL.isB_list_str, DL.isB_list_lst, DL.isB_list_tup, DL.isB_list_dic, DL.isB_tuple_non, DL.isB_tuple_bl, DL.isB_tuple_int, DL.isB_tuple_str, DL.isB_tuple_lst, DL.isB_tuple_tup, DL.isB_tuple_dic, Bool.cond_true, Bool.cond_false, L2.CDiv, Int.reduceLT, Int.reduceLE, true_and, and_true, cond_true, cond_false, List.map_cons, List.map_nil, List.set_cons_zero, List.set_cons_succ, List.set_nil, DL.cpow_109, DL.pow_109, DL.frz_set_lst, DL.frz_set_dic, Bool.not_true, Bool.not_false, DL.itemsOf_obj, DL.enumOf_obj, DL.all_still, okD_non, okD_bl, okD_int, okD_str, okD_lst, okD_tup, okD_dic, res_set_lst, Mem.set_same, Mem.set_set, lk_seats, lk_patience, lk_reading, lk_alone, lk_asking, lk_waiting, lk_rows, no_is_inside, no_is_waiting, no_look, no_come, no_leave, no_ask, no_ease, no_settled, no_begun, no_readers, no_writer, no_asker, no_line, no_passed, no_journal, dp_reading, dp_reading0, dp_reading1, dp_alone, dp_alone0, dp_asking, dp_asking0, dp_waiting, dp_rows, few_flds, eNames, isN_optS, res_optS, optS_some, optS_none, Option.isNone_none, Option.isNone_some, m_l_people, m_l_cell_at, Int.reduceLE, m_is_number])
/-! ### Room.__init__(self, seats, patience): 0 self, 1 seats, 2 patience -/
def t_room_init_7 (A : Adr) : DSt :=
  (dFldS A.Room "rows" (dVar 0) (dLst dNil))
def t_room_init_6 (A : Adr) : DSt :=
  (dSeq (dFldS A.Room "waiting" (dVar 0) (dLst dNil))
  (t_room_init_7 A))
def t_room_init_5 (A : Adr) : DSt :=
  (dSeq (dFldS A.Room "asking" (dVar 0) (dC .non))
  (t_room_init_6 A))
def t_room_init_4 (A : Adr) : DSt :=
  (dSeq (dFldS A.Room "alone" (dVar 0) (dC .non))
  (t_room_init_5 A))
def t_room_init_3 (A : Adr) : DSt :=
  (dSeq (dFldS A.Room "reading" (dVar 0) (dLst dNil))
  (t_room_init_4 A))
def t_room_init_2 (A : Adr) : DSt :=
  (dSeq (dFldS A.Room "patience" (dVar 0) (dVar 2))
  (t_room_init_3 A))
def t_room_init_1 (A : Adr) : DSt :=
  (dSeq (dFldS A.Room "seats" (dVar 0) (dVar 1))
  (t_room_init_2 A))
def t_room_init (A : Adr) : DSt :=
  (dSeq (dIfS (dOr (dNot (dB (dFn m_is_number (dCons (dVar 1) (dCons (dC (.int 1)) dNil))))) (dNot (dB (dFn m_is_number (dCons (dVar 2) (dCons (dC (.int 0)) dNil)))))) (dRaise A.BadNumber) dNext)
  (t_room_init_1 A))
local macro_rules | `(tactic| walk_at "un") => `(tactic| simp only [t_room_init_7, t_room_init_6, t_room_init_5, t_room_init_4, t_room_init_3, t_room_init_2, t_room_init_1, t_room_init])
def m_room_init (A : Adr) : FDm := fun ds M Q X => ∃ (a : Addr) (s p : D), ds = [.obj a, s, p] ∧ M a = some (.ins A.Room []) ∧ okD s = true ∧ okD p = true ∧
  ((isNum s 1 && isNum p 0) = false → X A.BadNumber M) ∧ (∀ i j, s = .int i → p = .int j → (isNum s 1 && isNum p 0) = true → Q .non (M.set a (.ins A.Room (flds (newRm i j)))))
theorem len_room_init (A : Adr) : ∀ ds M Q X, m_room_init A ds M Q X → ds.length = 3 := fun ds M Q X ⟨_, _, _, h, _⟩ => by subst h; rfl
theorem ini1 (v1 : D) : dput ([] : List (Str × D)) "seats" v1 = ([("seats", v1)] : List (Str × D)) := by walk_at "lk"
theorem ini2 (v1 v2 : D) : dput ([("seats", v1)] : List (Str × D)) "patience" v2 = ([("seats", v1), ("patience", v2)] : List (Str × D)) := by walk_at "lk"
theorem ini3 (v1 v2 v3 : D) : dput ([("seats", v1), ("patience", v2)] : List (Str × D)) "reading" v3 = ([("seats", v1), ("patience", v2), ("reading", v3)] : List (Str × D)) := by walk_at "lk"
theorem ini4 (v1 v2 v3 v4 : D) : dput ([("seats", v1), ("patience", v2), ("reading", v3)] : List (Str × D)) "alone" v4 = ([("seats", v1), ("patience", v2), ("reading", v3), ("alone", v4)] : List (Str × D)) := by walk_at "lk"
theorem ini5 (v1 v2 v3 v4 v5 : D) : dput ([("seats", v1), ("patience", v2), ("reading", v3), ("alone", v4)] : List (Str × D)) "asking" v5 = ([("seats", v1), ("patience", v2), ("reading", v3), ("alone", v4), ("asking", v5)] : List (Str × D)) := by walk_at "lk"
theorem ini6 (v1 v2 v3 v4 v5 v6 : D) : dput ([("seats", v1), ("patience", v2), ("reading", v3), ("alone", v4), ("asking", v5)] : List (Str × D)) "waiting" v6 = ([("seats", v1), ("patience", v2), ("reading", v3), ("alone", v4), ("asking", v5), ("waiting", v6)] : List (Str × D)) := by walk_at "lk"
theorem ini7 (v1 v2 v3 v4 v5 v6 v7 : D) : dput ([("seats", v1), ("patience", v2), ("reading", v3), ("alone", v4), ("asking", v5), ("waiting", v6)] : List (Str × D)) "rows" v7 = ([("seats", v1), ("patience", v2), ("reading", v3), ("alone", v4), ("asking", v5), ("waiting", v6), ("rows", v7)] : List (Str × D)) := by walk_at "lk"
theorem isNum_int {d : D} {l : Int} (h : isNum d l = true) : ∃ i, d = .int i := by
  cases d <;> first | exact ⟨_, rfl⟩ | cases h
theorem read_room_init (A : Adr) : ∀ ds M Q X, m_room_init A ds M Q X → t_room_init A (bodyE Q X) (startD 3 ds) M := by
  rintro ds M Q X ⟨a, s, p, rfl, ha, hs, hp, hx, hq⟩
  unfold t_room_init
  walk_at "dl"
  rw [hs, hp]
  walk_at "dl"
  refine cond_of (fun h1 => ?_) fun h1 => cond_of (fun h2 => ?_) fun h2 => ?_
  · have h1 : isNum s 1 = false := by simpa using h1
    exact retX_of (hx (by rw [h1]; rfl))
  · have h2 : isNum p 0 = false := by simpa using h2
    exact retX_of (hx (by rw [h2, Bool.and_false]))
  · have h1 : isNum s 1 = true := by simpa using h1
    have h2 : isNum p 0 = true := by simpa using h2
    obtain ⟨i, rfl⟩ := isNum_int h1
    obtain ⟨j, rfl⟩ := isNum_int h2
    have h := hq i j rfl rfl (by rw [h1, h2]; rfl)
    unfold t_room_init_1 t_room_init_2 t_room_init_3 t_room_init_4 t_room_init_5 t_room_init_6 t_room_init_7
    walk_at "dl"
    rw [ha]
    walk_at "dl"
    rw [ini1, ini2, ini3, ini4, ini5, ini6, ini7]
    simp only [List.map_cons, List.map_nil, few, true_and]
    exact retD_of h

/-! ### is_name(thing): 0 thing, 1 sign -/
def t_is_name_L1  : DSt :=
  (dIfS (dB (dOp oNotIn (dVar 1) (dC (.str "abcdefghijklmnopqrstuvwxyz0123456789")))) (dRet (dC (.bl false))) dNext)
def t_is_name_2  : DSt :=
  (dRet (dC (.bl true)))
def t_is_name_1  : DSt :=
  (dSeq (dFor (dItems (dVar 0)) (dgName 1) t_is_name_L1)
  t_is_name_2)
def t_is_name  : DSt :=
  (dSeq (dIfS (dOr (dNot (dB (dCall (on2 isiD) (dCons (dVar 0) (dCons (dC (.ty "str")) dNil))))) (dNot (dB (dChain oLe oLe (dC (.int 1)) (dCall (on1 lenD) (dCons (dVar 0) dNil)) (dC (.int 12)))))) (dRet (dC (.bl false))) dNext)
  t_is_name_1)
local macro_rules | `(tactic| walk_at "un") => `(tactic| simp only [t_is_name_2, t_is_name_1, t_is_name])
def m_is_name : FDm := fun ds M Q _ => match ds with
  | [d] => okD d = true ∧ Q (.bl (isName d)) M
  | _ => False
theorem len_is_name : ∀ ds M Q X, m_is_name ds M Q X → ds.length = 1 := fun ds M Q X h => by
  unfold m_is_name at h
  split at h <;> first | rfl | exact h.elim
theorem name_loop {E : DEnds} {M : Mem} {d : D} : ∀ (cs : List Nat) (o : Option D), (cs.all (fun c => decide (c ∈ signsL)) = true → ∀ o, E.nx [some d, o] M) → (cs.all (fun c => decide (c ∈ signsL)) = false → E.rt (.bl false) M) →
    forL (dgName 1) (dIfS (dB (dOp oNotIn (dVar 1) (dC (.str "abcdefghijklmnopqrstuvwxyz0123456789")))) (dRet (dC (.bl false))) dNext) E (cs.map fun c => .str ⟨#[c]⟩) [some d, o] M
  | [], o, h1, _ => h1 rfl o
  | c :: cs, o, h1, h2 => by
    rw [List.map_cons]
    rw [List.all_cons] at h1 h2
    unfold forL
    simp only [dgName, List.set_cons_zero, List.set_cons_succ, dIfS, dB, dOp, dVar, slot, el_some, dC, oNotIn, oInN_eq, res_str, inR_str, asB_bl, dRet, dNext, cond_true]
    refine cond_of (fun hc => ?_) fun hc => ?_
    · refine h2 ?_
      have : decide (c ∈ signsL) = false := by simpa [signsL] using hc
      rw [this]
      rfl
    · have hc' : decide (c ∈ signsL) = true := by simpa [signsL] using hc
      rw [hc', Bool.true_and] at h1 h2
      exact name_loop (E := E) cs _ h1 h2
theorem read_is_name : ∀ ds M Q X, m_is_name ds M Q X → t_is_name (bodyE Q X) (startD 2 ds) M := by
  intro ds M Q X h
  unfold m_is_name at h
  split at h
  rotate_left
  · exact h.elim
  rename_i d
  obtain ⟨hd, h⟩ := h
  walk_at "un"
  cases d with
  | str z =>
    simp only [dSeq, dIfS, dOr, dNot, dB, dCall, dCons, dNil, dVar, startD, slot, el_some, dC, on2_cons, res_str, res_ty, isiD_ty, isB_str_str, asB_bl, dChain, on1_cons, lenD_str, oLe, oInt0_eq, res_int, int0R_int, Bool.not_true, Bool.not_false, cond_true, cond_false, dRet, dNext, dFor, dItems, itemsOf_str]
    have hn : isName (.str z) = nameOk z := rfl
    rw [hn] at h
    unfold nameOk at h
    refine cond_of (fun h1 => cond_of (fun h2 => ?_) fun h2 => ?_) fun h1 => ?_
    · have h2' : ¬ z.length ≤ 12 := by
        have : ¬ ((z.length : Int) ≤ 12) := by simpa using h2
        omega
      rw [decide_eq_false h2', Bool.and_false, Bool.false_and] at h
      exact retD_of h
    · have h2' : z.length ≤ 12 := by
        have : ((z.length : Int) ≤ 12) := by simpa using h2
        omega
      have h1' : 1 ≤ z.length := by
        have : (1 ≤ (z.length : Int)) := by simpa using h1
        omega
      rw [decide_eq_true h1', decide_eq_true h2', Bool.true_and, Bool.true_and] at h
      unfold signsD
      unfold t_is_name_L1
      refine forI_of (name_loop _ _ (fun ha o => ?_) fun ha => ?_)
      · rw [ha] at h
        exact retD_of h
      · rw [ha] at h
        exact retD_of h
    · have h1' : ¬ 1 ≤ z.length := by
        have : ¬ (1 ≤ (z.length : Int)) := by simpa using h1
        omega
      rw [decide_eq_false h1', Bool.false_and, Bool.false_and] at h
      exact retD_of h
  | non => walk_at "dl"; exact retD_of h
  | bl b => walk_at "dl"; exact retD_of h
  | int b => walk_at "dl"; exact retD_of h
  | lst b => walk_at "dl"; exact retD_of h
  | tup b => walk_at "dl"; exact retD_of h
  | dic b => walk_at "dl"; exact retD_of h
  | scr b => cases hd
  | obj b => cases hd
  | ty b => cases hd
-- SIMP m_is_name

local macro_rules | `(tactic| walk_at "dl") => `(tactic| try simp -implicitDefEqProofs only [DL.dNext, DL.dSeq, DL.dExpr, DL.dRet, DL.dIfS, DL.dSet, DL.dCont, DL.dRaise, DL.dFor, DL.dgName, DL.dgPair, DL.dTry, DL.dFn, DL.dMth, DL.dMk, DL.dFld, DL.dFldS, DL.dPut, DL.dVar, DL.slot, DL.dC, DL.dOp, DL.dUn, DL.oSub, DL.oMul, DL.oDiv, DL.oMod, DL.oPow, DL.oLt, DL.oLe, DL.oGt, DL.oGe, DL.oEq, DL.oNe, DL.oIn, DL.oNotIn, DL.dB, DL.dIsN, DL.dChain, DL.dAnd, DL.dOr, DL.dNot, DL.dAndV, DL.dOrV, DL.dNotV, DL.dIf, DL.dNil, DL.dCons, DL.few, DL.dLst, DL.dTup, DL.dLstM, DL.dFrz, DL.dPairs, DL.dDisp, DL.dDic0, DL.dSl, DL.dNoPart, DL.dCall, DL.dMet0L, DL.dMet, DL.dItems, DL.dRange1, DL.dEnum, DL.dLcM, DL.dwipe, DL.startD, DL.dNever, DL.el_some, DL.elL_lst, DL.elD_dic, DL.elI_ins, DL.res_non, DL.res_bl, DL.res_int, DL.res_str, DL.res_lst, DL.res_tupE, DL.res_dic, DL.res_scr, DL.res_ty, DL.oAdd_eq, DL.addR_int, DL.addR_str, DL.addR_lst, DL.addR_tup, DL.oAddM_eq, DL.addMR_lst, DL.oInt_eq, DL.intR_int, DL.oInt0_eq, DL.int0R_int, DL.oNeg_eq, DL.negR_int, DL.oEqN_eq, DL.eqR_some, DL.eqR_none, DL.eqS_non_non, DL.eqS_non_int, DL.eqS_non_bl, DL.eqS_non_str, DL.eqS_non_lst, DL.eqS_non_tup, DL.eqS_int_non, DL.eqS_int_int, DL.eqS_int_bl, DL.eqS_int_str, DL.eqS_int_lst, DL.eqS_int_tup, DL.eqS_bl_non, DL.eqS_bl_int, DL.eqS_bl_bl, DL.eqS_bl_str, DL.eqS_bl_lst, DL.eqS_bl_tup, DL.eqS_str_non, DL.eqS_str_int, DL.eqS_str_bl, DL.eqS_str_str, DL.eqS_str_lst, DL.eqS_str_tup, DL.eqS_lst_non, DL.eqS_lst_int, DL.eqS_lst_bl, DL.eqS_lst_str, DL.eqS_lst_lst, DL.eqS_lst_tup, DL.eqS_tup_non, DL.eqS_tup_int, DL.eqS_tup_bl, DL.eqS_tup_str, DL.eqS_tup_lst, DL.eqS_tup_tup, DL.eqS_obj_non, DL.eqS_non_obj, DL.eqS_obj_int, DL.eqS_int_obj, DL.eqS_obj_bl, DL.eqS_bl_obj, DL.eqS_obj_str, DL.eqS_str_obj, DL.eqS_obj_lst, DL.eqS_lst_obj, DL.eqS_obj_tup, DL.eqS_tup_obj, DL.eqS_obj_obj, DL.oInN_eq, DL.inR_lst, DL.inR_tup, DL.inR_str, DL.flatD_non, DL.flatD_bl, DL.flatD_int, DL.flatD_str, DL.asB_bl, DL.isN_non, DL.isN_bl, DL.isN_int, DL.isN_str, DL.isN_lst, DL.isN_tup, DL.isN_dic, DL.isN_scr, DL.isN_ty, DL.isN_obj, DL.frz_non, DL.frz_bl, DL.frz_int, DL.frz_str, DL.frz_lst, DL.frz_tup, DL.frz_dic, DL.frz_scr, DL.frz_ty, DL.oIx_eq, DL.ixR_lst, DL.ixR_tup, DL.ixR_scr, DL.ixR_str, DL.ixR_dic, DL.nth_0, DL.nth_1, DL.nth_2, DL.nth_3, DL.oSl_eq, DL.slR_lst, DL.slR_tup, DL.slR_str, DL.dPart_eq, DL.partR_int, DL.on1_cons, DL.on2_cons, DL.lenD_lst, DL.lenD_tup, DL.lenD_scr, DL.lenD_str, DL.intD_int, DL.intD_bl, DL.strD_int, DL.int2_int, DL.listM_lst, DL.listF_lst, DL.listM_tup, DL.listF_tup, DL.dictM_dic, DL.isiD_ty, DL.oAppend_obj, DL.oInsert_obj, DL.oPop_obj, DL.oPopAt_obj, DL.isLst_eq, DL.isLstR_lst, DL.isStr_str, DL.oSplit_str, DL.oJoin_str, DL.itemsOf_lst, DL.itemsOf_tup, DL.itemsOf_str, DL.rng1_int, DL.enumOf_lst, DL.two_tup, DL.insIs_obj, DL.getFld_obj, DL.setFld_obj, DL.putDic_obj, DL.isB_str_non, DL.isB_str_bl, DL.isB_str_int, DL.isB_str_str, DL.isB_str_lst, DL.isB_str_tup, DL.isB_str_dic, DL.isB_int_non, DL.isB_int_bl, DL.isB_int_int, DL.isB_int_str, DL.isB_int_lst, DL.isB_int_tup, DL.isB_int_dic, DL.isB_bool_non, DL.isB_bool_bl, DL.isB_bool_int, DL.isB_bool_str, DL.isB_bool_lst, DL.isB_bool_tup, DL.isB_bool_dic, DL.isB_list_non, DL.isB_list_bl, DL.isB_list_int, DL.isB_list_str, DL.isB_list_lst, DL.isB_list_tup, DL.isB_list_dic, DL.isB_tuple_non, DL.isB_tuple_bl, DL.isB_tuple_int, DL.isB_tuple_str, DL.isB_tuple_lst, DL.isB_tuple_tup, DL.isB_tuple_dic, Bool.cond_true, Bool.cond_false, L2.CDiv, Int.reduceLT, Int.reduceLE, true_and, and_true, cond_true, cond_false, List.map_cons, List.map_nil, List.set_cons_zero, List.set_cons_succ, List.set_nil, DL.cpow_109, DL.pow_109, DL.frz_set_lst, DL.frz_set_dic, Bool.not_true, Bool.not_false, DL.itemsOf_obj, DL.enumOf_obj, DL.all_still, okD_non, okD_bl, okD_int, okD_str, okD_lst, okD_tup, okD_dic, res_set_lst, Mem.set_same, Mem.set_set, lk_seats, lk_patience, lk_reading, lk_alone, lk_asking, lk_waiting, lk_rows, no_is_inside, no_is_waiting, no_look, no_come, no_leave, no_ask, no_ease, no_settled, no_begun, no_readers, no_writer, no_asker, no_line, no_passed, no_journal, dp_reading, dp_reading0, dp_reading1, dp_alone, dp_alone0, dp_asking, dp_asking0, dp_waiting, dp_rows, few_flds, eNames, isN_optS, res_optS, optS_some, optS_none, Option.isNone_none, Option.isNone_some, m_l_people, m_l_cell_at, Int.reduceLE, m_is_number, m_is_name])
/-! ### is_wish(thing): 0 thing -/
def t_is_wish  : DSt :=
  (dRet (dAndV (dCall (on2 isiD) (dCons (dVar 0) (dCons (dC (.ty "str")) dNil))) (dOrV (dOp oEq (dVar 0) (dC (.str "read"))) (dOp oEq (dVar 0) (dC (.str "write"))))))
local macro_rules | `(tactic| walk_at "un") => `(tactic| simp only [t_is_wish])
def m_is_wish : FDm := fun ds M Q _ => match ds with
  | [d] => okD d = true ∧ Q (.bl (isWish d)) M
  | _ => False
theorem len_is_wish : ∀ ds M Q X, m_is_wish ds M Q X → ds.length = 1 := fun ds M Q X h => by
  unfold m_is_wish at h
  split at h <;> first | rfl | exact h.elim
theorem read_is_wish : ∀ ds M Q X, m_is_wish ds M Q X → t_is_wish (bodyE Q X) (startD 1 ds) M := by
  intro ds M Q X h
  unfold m_is_wish at h
  split at h
  rotate_left
  · exact h.elim
  rename_i d
  obtain ⟨hd, h⟩ := h
  walk_at "un"
  cases d with
  | str z =>
    walk_at "dl"
    have hw : isWish (.str z) = (decide (z = Str.ofString "read") || decide (z = Str.ofString "write")) := rfl
    rw [hw] at h
    refine cond_dec (fun h1 => ?_) fun h1 => ?_
    · rw [decide_eq_true h1, Bool.true_or] at h
      exact retD_of h
    · rw [decide_eq_false h1, Bool.false_or] at h
      exact retD_of h
  | non => walk_at "dl"; exact retD_of h
  | bl b => walk_at "dl"; exact retD_of h
  | int b => walk_at "dl"; exact retD_of h
  | lst b => walk_at "dl"; exact retD_of h
  | tup b => walk_at "dl"; exact retD_of h
  | dic b => walk_at "dl"; exact retD_of h
  | scr b => cases hd
  | obj b => cases hd
  | ty b => cases hd
-- SIMP m_is_wish

local macro_rules | `(tactic| walk_at "dl") => `(tactic| try simp -implicitDefEqProofs only [DL.dNext, DL.dSeq, DL.dExpr, DL.dRet, DL.dIfS, DL.dSet, DL.dCont, DL.dRaise, DL.dFor, DL.dgName, DL.dgPair, DL.dTry, DL.dFn, DL.dMth, DL.dMk, DL.dFld, DL.dFldS, DL.dPut, DL.dVar, DL.slot, DL.dC, DL.dOp, DL.dUn, DL.oSub, DL.oMul, DL.oDiv, DL.oMod, DL.oPow, DL.oLt, DL.oLe, DL.oGt, DL.oGe, DL.oEq, DL.oNe, DL.oIn, DL.oNotIn, DL.dB, DL.dIsN, DL.dChain, DL.dAnd, DL.dOr, DL.dNot, DL.dAndV, DL.dOrV, DL.dNotV, DL.dIf, DL.dNil, DL.dCons, DL.few, DL.dLst, DL.dTup, DL.dLstM, DL.dFrz, DL.dPairs, DL.dDisp, DL.dDic0, DL.dSl, DL.dNoPart, DL.dCall, DL.dMet0L, DL.dMet, DL.dItems, DL.dRange1, DL.dEnum, DL.dLcM, DL.dwipe, DL.startD, DL.dNever, DL.el_some, DL.elL_lst, DL.elD_dic, DL.elI_ins, DL.res_non, DL.res_bl, DL.res_int, DL.res_str, DL.res_lst, DL.res_tupE, DL.res_dic, DL.res_scr, DL.res_ty, DL.oAdd_eq, DL.addR_int, DL.addR_str, DL.addR_lst, DL.addR_tup, DL.oAddM_eq, DL.addMR_lst, DL.oInt_eq, DL.intR_int, DL.oInt0_eq, DL.int0R_int, DL.oNeg_eq, DL.negR_int, DL.oEqN_eq, DL.eqR_some, DL.eqR_none, DL.eqS_non_non, DL.eqS_non_int, DL.eqS_non_bl, DL.eqS_non_str, DL.eqS_non_lst, DL.eqS_non_tup, DL.eqS_int_non, DL.eqS_int_int, DL.eqS_int_bl, DL.eqS_int_str, DL.eqS_int_lst, DL.eqS_int_tup, DL.eqS_bl_non, DL.eqS_bl_int, DL.eqS_bl_bl, DL.eqS_bl_str, DL.eqS_bl_lst, DL.eqS_bl_tup, DL.eqS_str_non, DL.eqS_str_int, DL.eqS_str_bl, DL.eqS_str_str, DL.eqS_str_lst, DL.eqS_str_tup, DL.eqS_lst_non, DL.eqS_lst_int, DL.eqS_lst_bl, DL.eqS_lst_str, DL.eqS_lst_lst, DL.eqS_lst_tup, DL.eqS_tup_non, DL.eqS_tup_int, DL.eqS_tup_bl, DL.eqS_tup_str, DL.eqS_tup_lst, DL.eqS_tup_tup, DL.eqS_obj_non, DL.eqS_non_obj, DL.eqS_obj_int, DL.eqS_int_obj, DL.eqS_obj_bl, DL.eqS_bl_obj, DL.eqS_obj_str, DL.eqS_str_obj, DL.eqS_obj_lst, DL.eqS_lst_obj, DL.eqS_obj_tup, DL.eqS_tup_obj, DL.eqS_obj_obj, DL.oInN_eq, DL.inR_lst, DL.inR_tup, DL.inR_str, DL.flatD_non, DL.flatD_bl, DL.flatD_int, DL.flatD_str, DL.asB_bl, DL.isN_non, DL.isN_bl, DL.isN_int, DL.isN_str, DL.isN_lst, DL.isN_tup, DL.isN_dic, DL.isN_scr, DL.isN_ty, DL.isN_obj, DL.frz_non, DL.frz_bl, DL.frz_int, DL.frz_str, DL.frz_lst, DL.frz_tup, DL.frz_dic, DL.frz_scr, DL.frz_ty, DL.oIx_eq, DL.ixR_lst, DL.ixR_tup, DL.ixR_scr, DL.ixR_str, DL.ixR_dic, DL.nth_0, DL.nth_1, DL.nth_2, DL.nth_3, DL.oSl_eq, DL.slR_lst, DL.slR_tup, DL.slR_str, DL.dPart_eq, DL.partR_int, DL.on1_cons, DL.on2_cons, DL.lenD_lst, DL.lenD_tup, DL.lenD_scr, DL.lenD_str, DL.intD_int, DL.intD_bl, DL.strD_int, DL.int2_int, DL.listM_lst, DL.listF_lst, DL.listM_tup, DL.listF_tup, DL.dictM_dic, DL.isiD_ty, DL.oAppend_obj, DL.oInsert_obj, DL.oPop_obj, DL.oPopAt_obj, DL.isLst_eq, DL.isLstR_lst, DL.isStr_str, DL.oSplit_str, DL.oJoin_str, DL.itemsOf_lst, DL.itemsOf_tup, DL.itemsOf_str, DL.rng1_int, DL.enumOf_lst, DL.two_tup, DL.insIs_obj, DL.getFld_obj, DL.setFld_obj, DL.putDic_obj, DL.isB_str_non, DL.isB_str_bl, DL.isB_str_int, DL.isB_str_str, DL.isB_str_lst, DL.isB_str_tup, DL.isB_str_dic, DL.isB_int_non, DL.isB_int_bl, DL.isB_int_int, DL.isB_int_str, DL.isB_int_lst, DL.isB_int_tup, DL.isB_int_dic, DL.isB_bool_non, DL.isB_bool_bl, DL.isB_bool_int, DL.isB_bool_str, DL.isB_bool_lst, DL.isB_bool_tup, DL.isB_bool_dic, DL.isB_list_non, DL.isB_list_bl, DL.isB_list_int, DL.isB_list_str, DL.isB_list_lst, DL.isB_list_tup, DL.isB_list_dic, DL.isB_tuple_non, DL.isB_tuple_bl, DL.isB_tuple_int, DL.isB_tuple_str, DL.isB_tuple_lst, DL.isB_tuple_tup, DL.isB_tuple_dic, Bool.cond_true, Bool.cond_false, L2.CDiv, Int.reduceLT, Int.reduceLE, true_and, and_true, cond_true, cond_false, List.map_cons, List.map_nil, List.set_cons_zero, List.set_cons_succ, List.set_nil, DL.cpow_109, DL.pow_109, DL.frz_set_lst, DL.frz_set_dic, Bool.not_true, Bool.not_false, DL.itemsOf_obj, DL.enumOf_obj, DL.all_still, okD_non, okD_bl, okD_int, okD_str, okD_lst, okD_tup, okD_dic, res_set_lst, Mem.set_same, Mem.set_set, lk_seats, lk_patience, lk_reading, lk_alone, lk_asking, lk_waiting, lk_rows, no_is_inside, no_is_waiting, no_look, no_come, no_leave, no_ask, no_ease, no_settled, no_begun, no_readers, no_writer, no_asker, no_line, no_passed, no_journal, dp_reading, dp_reading0, dp_reading1, dp_alone, dp_alone0, dp_asking, dp_asking0, dp_waiting, dp_rows, few_flds, eNames, isN_optS, res_optS, optS_some, optS_none, Option.isNone_none, Option.isNone_some, m_l_people, m_l_cell_at, Int.reduceLE, m_is_number, m_is_name, m_is_wish])
/-! ### Room.is_waiting(self, name): 0 self, 1 name, 2 one -/
def t_room_is_waiting (A : Adr) : DSt :=
  (dRet (dOp oIn (dVar 1) (dLc (dItems (dFld A.Room "waiting" (dVar 0))) 2 dYes (dOp oIx (dVar 2) (dC (.int 0))))))
local macro_rules | `(tactic| walk_at "un") => `(tactic| simp only [t_room_is_waiting])
def m_room_is_waiting (A : Adr) : FDm := fun ds M Q _ => ∃ (a : Addr) (r : Rm) (z : Str), ds = [.obj a, .str z] ∧ At A M a r ∧ Q (.bl (waitsB r z)) M
theorem len_room_is_waiting (A : Adr) : ∀ ds M Q X, m_room_is_waiting A ds M Q X → ds.length = 2 := fun ds M Q X ⟨_, _, _, h, _⟩ => by subst h; rfl
theorem read_room_is_waiting (A : Adr) : ∀ ds M Q X, m_room_is_waiting A ds M Q X → t_room_is_waiting A (bodyE Q X) (startD 3 ds) M := by
  rintro ds M Q X ⟨a, r, z, rfl, ha, h⟩
  unfold t_room_is_waiting
  walk_at "dl"
  rw [show M a = _ from ha]
  walk_at "dl"
  refine lc_map fst (fun x hx M1 hs Qd q => ?_) ?_
  · unfold eLine at hx
    obtain ⟨w, hw, rfl⟩ := List.mem_map.mp hx
    unfold eW
    walk_at "dl"
    exact q
  · rw [fst_eLine]
    walk_at "dl"
    refine ⟨flatD_names _, ?_⟩
    rw [inD_names]
    exact retD_of h

/-! ### Room.is_inside(self, name): 0 self, 1 name -/
def t_room_is_inside (A : Adr) : DSt :=
  (dRet (dOrV (dOp oIn (dVar 1) (dFld A.Room "reading" (dVar 0))) (dAndV (dIsN true (dFld A.Room "alone" (dVar 0))) (dOp oEq (dVar 1) (dFld A.Room "alone" (dVar 0))))))
local macro_rules | `(tactic| walk_at "un") => `(tactic| simp only [t_room_is_inside])
def m_room_is_inside (A : Adr) : FDm := fun ds M Q _ => ∃ (a : Addr) (r : Rm) (z : Str), ds = [.obj a, .str z] ∧ At A M a r ∧ Q (.bl (insideB r z)) M
theorem len_room_is_inside (A : Adr) : ∀ ds M Q X, m_room_is_inside A ds M Q X → ds.length = 2 := fun ds M Q X ⟨_, _, _, h, _⟩ => by subst h; rfl
theorem read_room_is_inside (A : Adr) : ∀ ds M Q X, m_room_is_inside A ds M Q X → t_room_is_inside A (bodyE Q X) (startD 2 ds) M := by
  rintro ds M Q X ⟨a, r, z, rfl, ha, h⟩
  unfold t_room_is_inside
  walk_at "dl"
  rw [show M a = _ from ha]
  walk_at "dl"
  refine ⟨flatD_names _, ?_⟩
  rw [inD_names]
  unfold insideB at h
  refine cond_dec (fun e => ?_) fun e => ?_
  · rw [decide_eq_true e, Bool.true_or] at h
    exact retD_of h
  · rw [decide_eq_false e, Bool.false_or] at h
    rw [show M a = _ from ha]
    walk_at "dl"
    cases hr : r.alone with
    | none =>
      rw [hr, decide_eq_false (by simp)] at h
      exact retD_of h
    | some y =>
      rw [hr] at h
      show cond true _ _
      rw [cond_true]
      walk_at "dl"
      have : decide (some y = some z) = decide (z = y) := by
        by_cases e : z = y
        · subst e; simp
        · rw [decide_eq_false e, decide_eq_false (fun h => e (Option.some.inj h).symm)]
      rw [this] at h
      exact retD_of h

/-! ### can_begin(seats, reading, writes, wish): 0 seats, 1 reading, 2 writes, 3 wish -/
def t_can_begin_1  : DSt :=
  (dRet (dAndV (dNotV (dVar 2)) (dOp oEq (dVar 1) (dC (.int 0)))))
def t_can_begin  : DSt :=
  (dSeq (dIfS (dB (dOp oEq (dVar 3) (dC (.str "read")))) (dRet (dAndV (dNotV (dVar 2)) (dOp oLt (dVar 1) (dVar 0)))) dNext)
  t_can_begin_1)
local macro_rules | `(tactic| walk_at "un") => `(tactic| simp only [t_can_begin_1, t_can_begin])
def canBegin (s r : Int) (w : Bool) (x : Str) : Bool := cond (decide (x = "read")) (!w && decide (r < s)) (!w && decide (r = 0))
def m_can_begin : FDm := fun ds M Q _ => match ds with
  | [.int s, .int r, .bl w, .str x] => Q (.bl (canBegin s r w x)) M
  | _ => False
theorem len_can_begin : ∀ ds M Q X, m_can_begin ds M Q X → ds.length = 4 := fun ds M Q X h => by
  unfold m_can_begin at h
  split at h <;> first | rfl | exact h.elim
theorem read_can_begin : ∀ ds M Q X, m_can_begin ds M Q X → t_can_begin (bodyE Q X) (startD 4 ds) M := by
  intro ds M Q X h
  unfold m_can_begin at h
  split at h
  · rename_i s r w x
    walk_at "un"
    walk_at "dl"
    unfold canBegin at h
    refine cond_dec (fun hx => ?_) fun hx => ?_
    · rw [decide_eq_true hx] at h
      cases w <;> exact retD_of h
    · rw [decide_eq_false hx] at h
      cases w <;> exact retD_of h
  · exact h.elim
-- SIMP m_can_begin
theorem canBegin_read (s r : Int) (w : Bool) : canBegin s r w (Str.ofString "read") = (!w && decide (r < s)) := by
  unfold canBegin
  rw [decide_eq_true (rfl : Str.ofString "read" = ("read" : Str))]
  rfl
theorem canBegin_write (s r : Int) (w : Bool) : canBegin s r w (Str.ofString "write") = (!w && decide (r = 0)) := by
  unfold canBegin
  rw [decide_eq_false (show ¬ Str.ofString "write" = ("read" : Str) by decide +kernel)]
  rfl
-- SIMP canBegin_read canBegin_write
theorem canBegin_wish (s r : Int) (w rd : Bool) : canBegin s r w (wishS rd) = canB s r w rd := by
  unfold canBegin canB
  rw [wishS_read]
-- SIMP canBegin_wish

local macro_rules | `(tactic| walk_at "dl") => `(tactic| try simp -implicitDefEqProofs only [DL.dNext, DL.dSeq, DL.dExpr, DL.dRet, DL.dIfS, DL.dSet, DL.dCont, DL.dRaise, DL.dFor, DL.dgName, DL.dgPair, DL.dTry, DL.dFn, DL.dMth, DL.dMk, DL.dFld, DL.dFldS, DL.dPut, DL.dVar, DL.slot, DL.dC, DL.dOp, DL.dUn, DL.oSub, DL.oMul, DL.oDiv, DL.oMod, DL.oPow, DL.oLt, DL.oLe, DL.oGt, DL.oGe, DL.oEq, DL.oNe, DL.oIn, DL.oNotIn, DL.dB, DL.dIsN, DL.dChain, DL.dAnd, DL.dOr, DL.dNot, DL.dAndV, DL.dOrV, DL.dNotV, DL.dIf, DL.dNil, DL.dCons, DL.few, DL.dLst, DL.dTup, DL.dLstM, DL.dFrz, DL.dPairs, DL.dDisp, DL.dDic0, DL.dSl, DL.dNoPart, DL.dCall, DL.dMet0L, DL.dMet, DL.dItems, DL.dRange1, DL.dEnum, DL.dLcM, DL.dwipe, DL.startD, DL.dNever, DL.el_some, DL.elL_lst, DL.elD_dic, DL.elI_ins, DL.res_non, DL.res_bl, DL.res_int, DL.res_str, DL.res_lst, DL.res_tupE, DL.res_dic, DL.res_scr, DL.res_ty, DL.oAdd_eq, DL.addR_int, DL.addR_str, DL.addR_lst, DL.addR_tup, DL.oAddM_eq, DL.addMR_lst, DL.oInt_eq, DL.intR_int, DL.oInt0_eq, DL.int0R_int, DL.oNeg_eq, DL.negR_int, DL.oEqN_eq, DL.eqR_some, DL.eqR_none, DL.eqS_non_non, DL.eqS_non_int, DL.eqS_non_bl, DL.eqS_non_str, DL.eqS_non_lst, DL.eqS_non_tup, DL.eqS_int_non, DL.eqS_int_int, DL.eqS_int_bl, DL.eqS_int_str, DL.eqS_int_lst, DL.eqS_int_tup, DL.eqS_bl_non, DL.eqS_bl_int, DL.eqS_bl_bl, DL.eqS_bl_str, DL.eqS_bl_lst, DL.eqS_bl_tup, DL.eqS_str_non, DL.eqS_str_int, DL.eqS_str_bl, DL.eqS_str_str, DL.eqS_str_lst, DL.eqS_str_tup, DL.eqS_lst_non, DL.eqS_lst_int, DL.eqS_lst_bl, DL.eqS_lst_str, DL.eqS_lst_lst, DL.eqS_lst_tup, DL.eqS_tup_non, DL.eqS_tup_int, DL.eqS_tup_bl, DL.eqS_tup_str, DL.eqS_tup_lst, DL.eqS_tup_tup, DL.eqS_obj_non, DL.eqS_non_obj, DL.eqS_obj_int, DL.eqS_int_obj, DL.eqS_obj_bl, DL.eqS_bl_obj, DL.eqS_obj_str, DL.eqS_str_obj, DL.eqS_obj_lst, DL.eqS_lst_obj, DL.eqS_obj_tup, DL.eqS_tup_obj, DL.eqS_obj_obj, DL.oInN_eq, DL.inR_lst, DL.inR_tup, DL.inR_str, DL.flatD_non, DL.flatD_bl, DL.flatD_int, DL.flatD_str, DL.asB_bl, DL.isN_non, DL.isN_bl, DL.isN_int, DL.isN_str, DL.isN_lst, DL.isN_tup, DL.isN_dic, DL.isN_scr, DL.isN_ty, DL.isN_obj, DL.frz_non, DL.frz_bl, DL.frz_int, DL.frz_str, DL.frz_lst, DL.frz_tup, DL.frz_dic, DL.frz_scr, DL.frz_ty, DL.oIx_eq, DL.ixR_lst, DL.ixR_tup, DL.ixR_scr, DL.ixR_str, DL.ixR_dic, DL.nth_0, DL.nth_1, DL.nth_2, DL.nth_3, DL.oSl_eq, DL.slR_lst, DL.slR_tup, DL.slR_str, DL.dPart_eq, DL.partR_int, DL.on1_cons, DL.on2_cons, DL.lenD_lst, DL.lenD_tup, DL.lenD_scr, DL.lenD_str, DL.intD_int, DL.intD_bl, DL.strD_int, DL.int2_int, DL.listM_lst, DL.listF_lst, DL.listM_tup, DL.listF_tup, DL.dictM_dic, DL.isiD_ty, DL.oAppend_obj, DL.oInsert_obj, DL.oPop_obj, DL.oPopAt_obj, DL.isLst_eq, DL.isLstR_lst, DL.isStr_str, DL.oSplit_str, DL.oJoin_str, DL.itemsOf_lst, DL.itemsOf_tup, DL.itemsOf_str, DL.rng1_int, DL.enumOf_lst, DL.two_tup, DL.insIs_obj, DL.getFld_obj, DL.setFld_obj, DL.putDic_obj, DL.isB_str_non, DL.isB_str_bl, DL.isB_str_int, DL.isB_str_str, DL.isB_str_lst, DL.isB_str_tup, DL.isB_str_dic, DL.isB_int_non, DL.isB_int_bl, DL.isB_int_int, DL.isB_int_str, DL.isB_int_lst, DL.isB_int_tup, DL.isB_int_dic, DL.isB_bool_non, DL.isB_bool_bl, DL.isB_bool_int, DL.isB_bool_str, DL.isB_bool_lst, DL.isB_bool_tup, DL.isB_bool_dic, DL.isB_list_non, DL.isB_list_bl, DL.isB_list_int, DL.isB_list_str, DL.isB_list_lst, DL.isB_list_tup, DL.isB_list_dic, DL.isB_tuple_non, DL.isB_tuple_bl, DL.isB_tuple_int, DL.isB_tuple_str, DL.isB_tuple_lst, DL.isB_tuple_tup, DL.isB_tuple_dic, Bool.cond_true, Bool.cond_false, L2.CDiv, Int.reduceLT, Int.reduceLE, true_and, and_true, cond_true, cond_false, List.map_cons, List.map_nil, List.set_cons_zero, List.set_cons_succ, List.set_nil, DL.cpow_109, DL.pow_109, DL.frz_set_lst, DL.frz_set_dic, Bool.not_true, Bool.not_false, DL.itemsOf_obj, DL.enumOf_obj, DL.all_still, okD_non, okD_bl, okD_int, okD_str, okD_lst, okD_tup, okD_dic, res_set_lst, Mem.set_same, Mem.set_set, lk_seats, lk_patience, lk_reading, lk_alone, lk_asking, lk_waiting, lk_rows, no_is_inside, no_is_waiting, no_look, no_come, no_leave, no_ask, no_ease, no_settled, no_begun, no_readers, no_writer, no_asker, no_line, no_passed, no_journal, dp_reading, dp_reading0, dp_reading1, dp_alone, dp_alone0, dp_asking, dp_asking0, dp_waiting, dp_rows, few_flds, eNames, isN_optS, res_optS, optS_some, optS_none, Option.isNone_none, Option.isNone_some, m_l_people, m_l_cell_at, Int.reduceLE, m_is_number, m_is_name, m_is_wish, m_can_begin, canBegin_read, canBegin_write, canBegin_wish])
/-! ### first_reader(line): 0 line, 1 place, 2 one -/
def t_first_reader_L1  : DSt :=
  (dIfS (dB (dOp oEq (dOp oIx (dVar 2) (dC (.int 1))) (dC (.str "read")))) (dRet (dVar 1)) dNext)
def t_first_reader_1  : DSt :=
  (dRet (dC .non))
def t_first_reader  : DSt :=
  (dSeq (dFor (dEnum (dCons (dVar 0) dNil)) (dgPair 1 2) t_first_reader_L1)
  t_first_reader_1)
local macro_rules | `(tactic| walk_at "un") => `(tactic| simp only [t_first_reader_1, t_first_reader])
def m_first_reader : FDm := fun ds M Q _ => ∃ (d : D) (l : List Wt), ds = [d] ∧ Vw d (eLine l) M ∧ Q (optI (firstReader l)) M
theorem len_first_reader : ∀ ds M Q X, m_first_reader ds M Q X → ds.length = 1 := fun ds M Q X ⟨_, _, h, _⟩ => by subst h; rfl
theorem findIdx_none {l : List Wt} (h : ∀ (j : Nat) (w : Wt), l[j]? = some w → w.rd = false) : firstReader l = none := by
  unfold firstReader
  rw [List.findIdx?_eq_none_iff]
  intro x hx
  obtain ⟨j, hj⟩ := List.mem_iff_getElem?.mp hx
  exact h j x hj
theorem findIdx_some {l : List Wt} {k : Nat} {w : Wt} (h : l[k]? = some w) (hw : w.rd = true) (ha : ∀ (j : Nat) (w : Wt), j < k → l[j]? = some w → w.rd = false) : firstReader l = some k := by
  unfold firstReader
  rw [List.findIdx?_eq_some_iff_getElem]
  obtain ⟨hk, e⟩ := List.getElem?_eq_some_iff.mp h
  refine ⟨hk, by rw [e]; exact hw, fun j hj => ?_⟩
  have := ha j (l[j]'(by omega)) hj (List.getElem?_eq_getElem _)
  rw [this]
  exact Bool.false_ne_true
theorem read_first_reader : ∀ ds M Q X, m_first_reader ds M Q X → t_first_reader (bodyE Q X) (startD 3 ds) M := by
  rintro ds M Q X ⟨d, l, rfl, hv, h⟩
  walk_at "un"
  walk_at "dl"
  refine hv.enum fun P hP => ?_
  refine ⟨fun k δ M' => M' = M ∧ (∃ o1 o2 : Option D, δ = [some d, o1, o2]) ∧ ∀ (j : Nat) (w : Wt), j < k → l[j]? = some w → w.rd = false, ⟨rfl, ⟨_, _, rfl⟩, fun j _ hj => absurd hj (Nat.not_lt_zero _)⟩, ?_, ?_⟩
  · rintro k x δ M' hx ⟨rfl, ⟨o1, o2, rfl⟩, hk⟩
    refine ⟨hP, ?_⟩
    rw [enumD_get] at hx
    unfold eLine at hx
    rw [List.getElem?_map] at hx
    cases e : l[k]? with
    | none => rw [e] at hx; cases hx
    | some w =>
      rw [e] at hx
      cases hx
      unfold t_first_reader_L1 eW
      walk_at "dl"
      rw [wishS_read]
      refine cond_of (fun hr => ?_) fun hr => ?_
      · rw [findIdx_some e hr hk] at h
        have e0 : ((0 + k : Nat) : Int) = (k : Int) := by rw [Nat.zero_add]
        rw [e0]
        exact retD_of h
      · refine ⟨⟨_, _, rfl⟩, fun j w' hj hw => ?_⟩
        by_cases hjk : j = k
        · subst hjk; rw [e] at hw; cases hw; exact hr
        · exact hk j w' (by omega) hw
  · rintro δ M' ⟨rfl, ⟨o1, o2, rfl⟩, hk⟩
    refine ⟨hP, ?_⟩
    rw [enumD_len] at hk
    have hn : firstReader l = none := findIdx_none fun j w hw => hk j w (by
      unfold eLine
      rw [List.length_map]
      exact (List.getElem?_eq_some_iff.mp hw).1) hw
    rw [hn] at h
    exact retD_of h

/-! ### next_place(line, seats, patience, reading, writes): 0 line, 1 seats, 2 patience, 3 reading, 4 writes, 5 place, 6 one -/
def t_next_place_L1  : DSt :=
  (dIfS (dB (dOp oGe (dOp oIx (dVar 6) (dC (.int 2))) (dVar 2))) (dRet (dC .non)) dNext)
def t_next_place_6  : DSt :=
  (dRet (dVar 5))
def t_next_place_5  : DSt :=
  (dSeq (dFor (dItems (dSl (dVar 0) dNoPart (dPart (dVar 5)))) (dgName 6) t_next_place_L1)
  t_next_place_6)
def t_next_place_4  : DSt :=
  (dSeq (dIfS (dOr (dB (dIsN false (dVar 5))) (dNot (dB (dFn m_can_begin (dCons (dVar 1) (dCons (dVar 3) (dCons (dVar 4) (dCons (dC (.str "read")) dNil)))))))) (dRet (dC .non)) dNext)
  t_next_place_5)
def t_next_place_3  : DSt :=
  (dSeq (dSet 5 (dFn m_first_reader (dCons (dVar 0) dNil)))
  t_next_place_4)
def t_next_place_2  : DSt :=
  (dSeq (dIfS (dOr (dB (dOp oEq (dOp oIx (dOp oIx (dVar 0) (dC (.int 0))) (dC (.int 1))) (dC (.str "read")))) (dB (dOp oEq (dVar 3) (dC (.int 0))))) (dRet (dC .non)) dNext)
  t_next_place_3)
def t_next_place_1  : DSt :=
  (dSeq (dIfS (dB (dFn m_can_begin (dCons (dVar 1) (dCons (dVar 3) (dCons (dVar 4) (dCons (dOp oIx (dOp oIx (dVar 0) (dC (.int 0))) (dC (.int 1))) dNil)))))) (dRet (dC (.int 0))) dNext)
  t_next_place_2)
def t_next_place  : DSt :=
  (dSeq (dIfS (dB (dOp oEq (dVar 0) (dLst dNil))) (dRet (dC .non)) dNext)
  t_next_place_1)
local macro_rules | `(tactic| walk_at "un") => `(tactic| simp only [t_next_place_6, t_next_place_5, t_next_place_4, t_next_place_3, t_next_place_2, t_next_place_1, t_next_place])
def m_next_place : FDm := fun ds M Q _ => ∃ (d : D) (l : List Wt) (s p r : Int) (w : Bool), ds = [d, .int s, .int p, .int r, .bl w] ∧ Vw d (eLine l) M ∧ Q (optI (nextPlace l s p r w)) M
theorem len_next_place : ∀ ds M Q X, m_next_place ds M Q X → ds.length = 5 := fun ds M Q X ⟨_, _, _, _, _, _, h, _⟩ => by subst h; rfl
theorem read_next_place : ∀ ds M Q X, m_next_place ds M Q X → t_next_place (bodyE Q X) (startD 7 ds) M := by
  rintro ds M Q X ⟨d, l, s, p, r, w, rfl, hv, h⟩
  unfold t_next_place t_next_place_1
  walk_at "dl"
  rw [hv.eqS_lst, hv.res]
  walk_at "dl"
  refine ⟨by rw [flatN_lst]; exact flat_map _ _ (fun w => by unfold eW; rw [flatN_tup, flatL_cons, flatL_cons, flatL_cons, flatN_str, flatN_str, flatN_int, flatL_nil]; rfl) l, by rw [flatN_lst]; rfl, ?_⟩
  rw [eqv_nil]
  cases l with
  | nil => exact retD_of h
  | cons x l =>
    show cond false _ _
    rw [cond_false]
    have e0 : nth (eLine (x :: l)) 0 = some (eW x) := rfl
    rw [hv.res, ixR_lst, e0, el_some]
    unfold eW
    walk_at "dl"
    refine cond_of (fun hc => ?_) fun hc => ?_
    · have : nextPlace (x :: l) s p r w = some 0 := by
        unfold nextPlace
        simp only
        rw [if_pos hc]
      rw [this] at h
      exact retD_of h
    unfold t_next_place_2
    walk_at "dl"
    rw [hv.res, ixR_lst, e0, el_some]
    unfold eW
    walk_at "dl"
    rw [wishS_read]
    have hnone : (x.rd = true ∨ r = 0) → retD Q .non M := fun hh => by
      have : nextPlace (x :: l) s p r w = none := by
        unfold nextPlace
        simp only
        rw [if_neg (by rw [hc]; exact Bool.false_ne_true), if_pos hh]
      rw [this] at h
      exact retD_of h
    refine cond_of (fun hr => hnone (.inl hr)) fun hr => cond_dec (fun h0 => hnone (.inr h0)) fun h0 => ?_
    have hno : ¬ (x.rd = true ∨ r = 0) := by
      rintro (z | z)
      · rw [z] at hr; cases hr
      · exact h0 z
    unfold t_next_place_3
    walk_at "dl"
    refine ⟨d, x :: l, rfl, hv, ?_⟩
    unfold t_next_place_4
    have hnp : nextPlace (x :: l) s p r w = (match firstReader (x :: l) with
      | none => none
      | some k => if canB s r w true = false then none else if ((x :: l).take k).any (fun o => decide (p ≤ o.n)) = true then none else some k) := by
      rw [nextPlace]
      rw [if_neg (by rw [hc]; exact Bool.false_ne_true), if_neg hno]
    rw [hnp] at h
    cases hf : firstReader (x :: l) with
    | none =>
      rw [hf] at h
      unfold optI
      walk_at "dl"
      exact retD_of h
    | some k =>
      rw [hf] at h
      unfold optI
      walk_at "dl"
      have hcr : (!w && decide (r < s)) = canB s r w true := rfl
      rw [hcr]
      cases hb : canB s r w true with
      | false =>
        rw [hb] at h
        walk_at "dl"
        exact retD_of h
      | true =>
        rw [hb] at h
        simp only [Bool.true_eq_false, if_false] at h
        walk_at "dl"
        unfold t_next_place_5
        walk_at "dl"
        rw [hv.res]
        walk_at "dl"
        rw [dcut_take]
        refine ⟨fun j δ M' => M' = M ∧ (∃ o : Option D, δ = [some d, some (.int s), some (.int p), some (.int r), some (.bl w), some (.int (k : Int)), o]) ∧ ∀ (i : Nat) (o : Wt), i < j → ((x :: l).take k)[i]? = some o → ¬ p ≤ o.n, ⟨rfl, ⟨_, rfl⟩, fun i _ hi => absurd hi (Nat.not_lt_zero _)⟩, ?_, ?_⟩
        · rintro j y δ M' hy ⟨rfl, ⟨o, rfl⟩, hj⟩
          refine ⟨trivial, ?_⟩
          unfold eLine at hy
          rw [← List.map_take, List.getElem?_map] at hy
          cases e : ((x :: l).take k)[j]? with
          | none => rw [e] at hy; cases hy
          | some v =>
            rw [e] at hy
            cases hy
            unfold t_next_place_L1 eW
            walk_at "dl"
            refine cond_dec (fun hp => ?_) fun hp => ?_
            · have : ((x :: l).take k).any (fun o => decide (p ≤ o.n)) = true := List.any_eq_true.mpr ⟨v, List.mem_of_getElem? e, decide_eq_true hp⟩
              rw [if_pos this] at h
              exact retD_of h
            · refine ⟨⟨_, rfl⟩, fun i o' hi ho => ?_⟩
              by_cases hij : i = j
              · subst hij; rw [e] at ho; cases ho; exact hp
              · exact hj i o' (by omega) ho
        · rintro δ M' ⟨rfl, ⟨o, rfl⟩, hj⟩
          refine ⟨trivial, ?_⟩
          have : ¬ ((x :: l).take k).any (fun o => decide (p ≤ o.n)) = true := by
            intro hh
            obtain ⟨v, hm, hp⟩ := List.any_eq_true.mp hh
            obtain ⟨i, hi⟩ := List.mem_iff_getElem?.mp hm
            refine hj i v ?_ hi (of_decide_eq_true hp)
            have := (List.getElem?_eq_some_iff.mp hi).1
            unfold eLine
            rw [← List.map_take, List.length_map]
            exact this
          rw [if_neg this] at h
          unfold t_next_place_6
          walk_at "dl"
          exact retD_of h

/-! ### Room.begun(self): 0 self, 1 place, 2 one, 3 ahead, 4 other -/
def t_room_begun_7 (A : Adr) : DSt :=
  (dRet (dTup (dCons (dOp oIx (dVar 2) (dC (.int 0))) (dCons (dOp oIx (dVar 2) (dC (.int 1))) dNil))))
def t_room_begun_6 (A : Adr) : DSt :=
  (dSeq (dIfS (dB (dOp oEq (dOp oIx (dVar 2) (dC (.int 1))) (dC (.str "read")))) (dFldS A.Room "reading" (dVar 0) (dOp oAdd (dFld A.Room "reading" (dVar 0)) (dLst (dCons (dOp oIx (dVar 2) (dC (.int 0))) dNil)))) (dFldS A.Room "alone" (dVar 0) (dOp oIx (dVar 2) (dC (.int 0)))))
  (t_room_begun_7 A))
def t_room_begun_5 (A : Adr) : DSt :=
  (dSeq (dFldS A.Room "waiting" (dVar 0) (dOp oAdd (dVar 3) (dSl (dFld A.Room "waiting" (dVar 0)) (dPart (dOp oAdd (dVar 1) (dC (.int 1)))) dNoPart)))
  (t_room_begun_6 A))
def t_room_begun_4 (A : Adr) : DSt :=
  (dSeq (dSet 3 (dLc (dItems (dSl (dFld A.Room "waiting" (dVar 0)) dNoPart (dPart (dVar 1)))) 4 dYes (dTup (dCons (dOp oIx (dVar 4) (dC (.int 0))) (dCons (dOp oIx (dVar 4) (dC (.int 1))) (dCons (dOp oAdd (dOp oIx (dVar 4) (dC (.int 2))) (dC (.int 1))) dNil))))))
  (t_room_begun_5 A))
def t_room_begun_3 (A : Adr) : DSt :=
  (dSeq (dSet 2 (dOp oIx (dFld A.Room "waiting" (dVar 0)) (dVar 1)))
  (t_room_begun_4 A))
def t_room_begun_2 (A : Adr) : DSt :=
  (dSeq (dIfS (dB (dIsN false (dVar 1))) (dRet (dC .non)) dNext)
  (t_room_begun_3 A))
def t_room_begun_1 (A : Adr) : DSt :=
  (dSeq (dSet 1 (dFn m_next_place (dCons (dFld A.Room "waiting" (dVar 0)) (dCons (dFld A.Room "seats" (dVar 0)) (dCons (dFld A.Room "patience" (dVar 0)) (dCons (dCall (on1 lenD) (dCons (dFld A.Room "reading" (dVar 0)) dNil)) (dCons (dIsN true (dFld A.Room "alone" (dVar 0))) dNil)))))))
  (t_room_begun_2 A))
def t_room_begun (A : Adr) : DSt :=
  (dSeq (dIfS (dB (dIsN true (dFld A.Room "asking" (dVar 0)))) (dSeq (dIfS (dB (dOp oGt (dCall (on1 lenD) (dCons (dFld A.Room "reading" (dVar 0)) dNil)) (dC (.int 1)))) (dRet (dC .non)) dNext)
  (dSeq (dFldS A.Room "alone" (dVar 0) (dFld A.Room "asking" (dVar 0)))
  (dSeq (dFldS A.Room "asking" (dVar 0) (dC .non))
  (dSeq (dFldS A.Room "reading" (dVar 0) (dLst dNil))
  (dRet (dTup (dCons (dFld A.Room "alone" (dVar 0)) (dCons (dC (.str "write")) dNil)))))))) dNext)
  (t_room_begun_1 A))
local macro_rules | `(tactic| walk_at "un") => `(tactic| simp only [t_room_begun_7, t_room_begun_6, t_room_begun_5, t_room_begun_4, t_room_begun_3, t_room_begun_2, t_room_begun_1, t_room_begun])
def m_room_begun (A : Adr) : FDm := fun ds M Q _ => ∃ (a : Addr) (r : Rm), ds = [.obj a] ∧ At A M a r ∧ wgt r ≤ 1000000 ∧
  (begun r = none → Q .non M) ∧ (∀ p r1, begun r = some (p, r1) → Q (eP p) (M.set a (.ins A.Room (flds r1))))
theorem len_room_begun (A : Adr) : ∀ ds M Q X, m_room_begun A ds M Q X → ds.length = 1 := fun ds M Q X ⟨_, _, h, _⟩ => by subst h; rfl
theorem read_room_begun (A : Adr) : ∀ ds M Q X, m_room_begun A ds M Q X → t_room_begun A (bodyE Q X) (startD 5 ds) M := by
  rintro ds M Q X ⟨a, r, rfl, ha, hw, h0, h1⟩
  have hM : M a = some (.ins A.Room (flds r)) := ha
  unfold begun at h0 h1
  unfold t_room_begun
  walk_at "dl"
  rw [hM]
  walk_at "dl"
  cases hr : r.asking with
  | some z =>
    rw [hr] at h0 h1
    simp only at h0 h1
    show cond true _ _
    rw [cond_true]
    rw [hM]
    walk_at "dl"
    rw [hr]
    walk_at "dl"
    rw [List.length_map]
    refine cond_dec (fun e => ?_) fun e => ?_
    · exact retD_of (h0 (if_pos (by omega)))
    · have := h1 _ _ (if_neg (by omega))
      unfold eP at this
      rw [wishS_f] at this
      exact retD_of this
  | none =>
    rw [hr] at h0 h1
    simp only at h0 h1
    show cond false _ _
    rw [cond_false]
    unfold t_room_begun_1
    walk_at "dl"
    rw [hM]
    walk_at "dl"
    rw [hM]
    walk_at "dl"
    rw [List.length_map]
    have hb : (!r.alone.isNone) = r.alone.isSome := by cases r.alone <;> rfl
    rw [hb]
    refine ⟨_, _, _, _, _, _, rfl, .lst _ _, ?_⟩
    unfold t_room_begun_2
    cases hn : nextPlace r.waiting r.seats r.patience r.reading.length r.alone.isSome with
    | none =>
      rw [hn] at h0
      unfold optI
      walk_at "dl"
      exact retD_of (h0 rfl)
    | some k =>
      have hk := nextPlace_lt hn
      have hg := List.getElem?_eq_getElem hk
      rw [hn] at h1
      simp only at h1
      generalize r.waiting[k] = w at hg
      rw [hg] at h1
      have h1 := h1 _ _ rfl
      unfold optI
      walk_at "dl"
      unfold t_room_begun_3
      walk_at "dl"
      rw [hM]
      walk_at "dl"
      rw [nth_eL hg, el_some]
      unfold t_room_begun_4
      walk_at "dl"
      rw [hM]
      walk_at "dl"
      rw [dcut_take, take_eLine]
      refine lc_map bumpD (fun x hx M1 hs Qd q => ?_) ?_
      · unfold eLine at hx
        obtain ⟨v, hv, rfl⟩ := List.mem_map.mp hx
        unfold eW
        walk_at "dl"
        exact q
      rw [bump_eLine]
      unfold t_room_begun_5
      walk_at "dl"
      rw [hM]
      walk_at "dl"
      rw [dcut_drop, drop_eLine]
      walk_at "dl"
      rw [← eLine_app]
      have hz : (eLine ((r.waiting.take k).map bump)).length + (eLine (r.waiting.drop (k + 1))).length ≤ sizeLine := by
        rw [len_eLine, len_eLine, List.length_map, List.length_take, List.length_drop, sizeLine_eq]
        unfold wgt at hw
        omega
      refine ⟨hz, ?_⟩
      rw [hM]
      walk_at "dl"
      unfold t_room_begun_6 t_room_begun_7 eW
      walk_at "dl"
      rw [wishS_read]
      unfold eP at h1
      cases hrd : w.rd with
      | true =>
        rw [hrd] at h1
        walk_at "dl"
        rw [show D.lst (r.reading.map .str ++ [.str w.name]) = D.lst ((r.reading ++ [w.name]).map .str) by rw [List.map_append]; rfl]
        walk_at "dl"
        rw [hr]
        refine ⟨?_, retD_of h1⟩
        rw [List.length_map, sizeLine_eq]
        unfold wgt at hw
        show _ + 1 ≤ _
        omega
      | false =>
        rw [hrd] at h1
        walk_at "dl"
        rw [hr]
        exact retD_of h1

/-! ### Room.settled(self, row): 0 self, 1 row, 2 found, 3 one -/
def t_room_settled_L1_2 (A : Adr) : DSt :=
  (dSet 3 (dMth A.Room "begun" (m_room_begun A) (dVar 0) dNil))
def t_room_settled_L1_1 (A : Adr) : DSt :=
  (dSeq (dFldS A.Room "rows" (dVar 0) (dOp oAdd (dFld A.Room "rows" (dVar 0)) (dLst (dCons (dTup (dCons (dC (.str "begins")) (dCons (dOp oIx (dVar 3) (dC (.int 0))) (dCons (dOp oIx (dVar 3) (dC (.int 1))) dNil)))) dNil))))
  (t_room_settled_L1_2 A))
def t_room_settled_L1 (A : Adr) : DSt :=
  (dSeq (dExpr (dMet isLst oAppend (dVar 2) (dCons (dVar 3) dNil)))
  (t_room_settled_L1_1 A))
def t_room_settled_4 (A : Adr) : DSt :=
  (dRet (dVar 2))
def t_room_settled_3 (A : Adr) : DSt :=
  (dSeq (dWhile (dB (dIsN true (dVar 3))) (t_room_settled_L1 A))
  (t_room_settled_4 A))
def t_room_settled_2 (A : Adr) : DSt :=
  (dSeq (dSet 3 (dMth A.Room "begun" (m_room_begun A) (dVar 0) dNil))
  (t_room_settled_3 A))
def t_room_settled_1 (A : Adr) : DSt :=
  (dSeq (dSet 2 (dLstM dNil))
  (t_room_settled_2 A))
def t_room_settled (A : Adr) : DSt :=
  (dSeq (dFldS A.Room "rows" (dVar 0) (dOp oAdd (dFld A.Room "rows" (dVar 0)) (dLst (dCons (dVar 1) dNil))))
  (t_room_settled_1 A))
local macro_rules | `(tactic| walk_at "un") => `(tactic| simp only [t_room_settled_4, t_room_settled_3, t_room_settled_2, t_room_settled_1, t_room_settled])
def m_room_settled (A : Adr) : FDm := fun ds M Q _ => ∃ (a : Addr) (r : Rm) (x : Rw), ds = [.obj a, eR x] ∧ At A M a r ∧ wgt r ≤ 900000 ∧
  ∀ p, M p = none → Q (.obj p) ((M.set a (.ins A.Room (flds (settle (meas r) (logR r x)).2))).set p (.lst (ePs (settle (meas r) (logR r x)).1)))
theorem len_room_settled (A : Adr) : ∀ ds M Q X, m_room_settled A ds M Q X → ds.length = 2 := fun ds M Q X ⟨_, _, _, h, _⟩ => by subst h; rfl
/-- where the loop stands: those found, the one who begins, the room, and what comes out in the end -/
def setAt (L : List (Str × Bool)) (R : Rm) (m : Nat) (l : List (Str × Bool)) (one : Option (Str × Bool)) (r : Rm) : Prop :=
  wgt r ≤ 900009 ∧ l.length ≤ r.rows.length ∧ match one with
  | none => L = l ∧ R = r
  | some q => wgt (logB r q) ≤ 900009 ∧ ∃ n, m = n + 1 ∧ meas r ≤ n ∧ L = l ++ q :: (settle n (logB r q)).1 ∧ R = (settle n (logB r q)).2
theorem setAt_of {L : List (Str × Bool)} {R r : Rm} {n : Nat} {l : List (Str × Bool)} (hw : wgt r ≤ 900009) (hl : l.length ≤ r.rows.length) (hm : meas r ≤ n) (hL : L = l ++ (settle n r).1) (hR : R = (settle n r).2) :
    (begun r = none → setAt L R n l none r) ∧ ∀ p r1, begun r = some (p, r1) → setAt L R n l (some p) r1 := by
  refine ⟨fun h => ?_, fun p r1 h => ?_⟩
  · cases n with
    | zero => exact ⟨hw, hl, by rw [hL]; exact List.append_nil _, hR⟩
    | succ n =>
      unfold settle at hL hR
      rw [h] at hL hR
      exact ⟨hw, hl, by rw [hL]; exact List.append_nil _, hR⟩
  · obtain ⟨b1, b2, b3⟩ := begun_spec h
    cases n with
    | zero => omega
    | succ n =>
      unfold settle at hL hR
      rw [h] at hL hR
      have b4 : wgt r1 ≤ wgt (logB r1 p) := by
        unfold wgt logB
        simp only [List.length_append]
        omega
      exact ⟨by omega, by rw [b3]; exact hl, by omega, n, rfl, by omega, hL, hR⟩
theorem read_room_settled (A : Adr) : ∀ ds M Q X, m_room_settled A ds M Q X → t_room_settled A (bodyE Q X) (startD 4 ds) M := by
  rintro ds M Q X ⟨a, r, x, rfl, ha, hw, h⟩
  have hM : M a = some (.ins A.Room (flds r)) := ha
  unfold t_room_settled
  walk_at "dl"
  rw [hM]
  walk_at "dl"
  have e1 : eRows r.rows ++ [eR x] = eRows (r.rows ++ [x]) := by rw [eRows_app]; rfl
  rw [e1]
  walk_at "dl"
  refine ⟨by rw [len_eRows, sizeLine_eq]; unfold wgt at hw; show _ + 1 ≤ _; omega, ?_⟩
  rw [hM]
  walk_at "dl"
  unfold t_room_settled_1
  walk_at "dl"
  intro p hp
  have hpa : p ≠ a := fun e => by
    subst e
    rw [Mem.set_same] at hp
    cases hp
  rw [Mem.set_ne hpa] at hp
  have h := h p hp
  generalize hS : settle (meas r) (logR r x) = S at h
  obtain ⟨L, R⟩ := S
  simp only at h
  have hwx : wgt (logR r x) ≤ 900009 := by
    unfold wgt logR
    unfold wgt at hw
    simp only [List.length_append, List.length_singleton]
    omega
  have hat : ∀ (r : Rm) (l : List (Str × Bool)), ((M.set a (.ins A.Room (flds r))).set p (.lst (ePs l))) a = some (.ins A.Room (flds r)) := fun r l => by
    rw [Mem.set_ne hpa.symm, Mem.set_same]
  have hsets : ∀ (r r' : Rm) (l : List (Str × Bool)), ((M.set a (.ins A.Room (flds r))).set p (.lst (ePs l))).set a (.ins A.Room (flds r')) = (M.set a (.ins A.Room (flds r'))).set p (.lst (ePs l)) := fun r r' l => by
    rw [Mem.set_comm hpa, Mem.set_set]
  have hb : ∀ (n : Nat) (r : Rm) (l : List (Str × Bool)) (Q' : QD) (X' : Addr → Mem → Prop), wgt r ≤ 900009 → l.length ≤ r.rows.length → meas r ≤ n → L = l ++ (settle n r).1 → R = (settle n r).2 →
      (∀ one r1, setAt L R n l one r1 → Q' (optP one) ((M.set a (.ins A.Room (flds r1))).set p (.lst (ePs l)))) →
      m_room_begun A [.obj a] ((M.set a (.ins A.Room (flds r))).set p (.lst (ePs l))) Q' X' := fun n r l Q' X' h1 hl h2 h3 h4 k => by
    obtain ⟨s1, s2⟩ := setAt_of h1 hl h2 h3 h4
    refine ⟨a, r, rfl, hat _ _, by omega, fun hb => k none r (s1 hb), fun q r1 hb => ?_⟩
    rw [hsets]
    exact k (some q) r1 (s2 q r1 hb)
  have loop : ∀ m l one r1, setAt L R m l one r1 → t_room_settled_3 A (bodyE Q X) [some (.obj a), some (eR x), some (.obj p), some (optP one)] ((M.set a (.ins A.Room (flds r1))).set p (.lst (ePs l))) := by
    intro m l one r1 hs
    unfold t_room_settled_3
    walk_at "dl"
    refine ⟨fun m δ M' => ∃ l one r1, setAt L R m l one r1 ∧ M' = (M.set a (.ins A.Room (flds r1))).set p (.lst (ePs l)) ∧ δ = [some (.obj a), some (eR x), some (.obj p), some (optP one)], ⟨m, l, one, r1, hs, rfl, rfl⟩, ?_⟩
    rintro m δ M' ⟨l, one, r1, hs, rfl, rfl⟩
    walk_at "dl"
    cases one with
    | none =>
      obtain ⟨_, _, rfl, rfl⟩ := hs
      unfold optP t_room_settled_4
      walk_at "dl"
      exact retD_of h
    | some q =>
      obtain ⟨h1, hl, h2, n, rfl, hm, hL, hR⟩ := hs
      unfold optP t_room_settled_L1 t_room_settled_L1_1 t_room_settled_L1_2 eP
      walk_at "dl"
      have hr1 : r1.rows.length ≤ 900009 := by unfold wgt at h1; omega
      refine ⟨by unfold ePs; rw [List.length_map, sizeLine_eq]; omega, ?_⟩
      have e2 : ePs l ++ [D.tup [D.str q.1, D.str (wishS q.2)]] = ePs (l ++ [q]) := by unfold ePs; rw [List.map_append]; rfl
      have e3 : eRows r1.rows ++ [D.tup [D.str (Str.ofString "begins"), D.str q.1, D.str (wishS q.2)]] = eRows (r1.rows ++ [.begins q.1 q.2]) := by rw [eRows_app]; rfl
      rw [e2, hat]
      walk_at "dl"
      rw [e3]
      refine ⟨by rw [len_eRows, sizeLine_eq]; show _ + 1 ≤ _; omega, ?_⟩
      rw [hat]
      walk_at "dl"
      rw [hsets]
      rw [show (⟨r1.seats, r1.patience, r1.reading, r1.alone, r1.asking, r1.waiting, r1.rows ++ [.begins q.1 q.2]⟩ : Rm) = logB r1 q from rfl]
      refine hb n (logB r1 q) (l ++ [q]) _ _ h2 ?_ hm ?_ hR fun one r2 hs => ⟨n, Nat.lt_succ_self n, l ++ [q], one, r2, hs, rfl, by cases one <;> rfl⟩
      · unfold logB
        simp only [List.length_append, List.length_singleton]
        omega
      · rw [hL, List.append_assoc]
        rfl
  unfold t_room_settled_2
  walk_at "dl"
  rw [show (MO.lst []) = MO.lst (ePs []) from rfl]
  rw [show (⟨r.seats, r.patience, r.reading, r.alone, r.asking, r.waiting, r.rows ++ [x]⟩ : Rm) = logR r x from rfl]
  rw [hat]
  walk_at "dl"
  exact hb (meas r) (logR r x) [] _ _ hwx (Nat.zero_le _) (Nat.le_refl _) (by rw [hS]; rfl) (by rw [hS]) fun one r1 hs => loop _ _ _ _ hs
/-- the settling of a deed, from the room as it stands in the memory -/
theorem settled_by {A : Adr} {a : Addr} {r : Rm} {x : Rw} {M M0 : Mem} {Q : QD} {X X' : Addr → Mem → Prop} (ha : At A M a r) (hM : ∀ r', M.set a (.ins A.Room (flds r')) = M0.set a (.ins A.Room (flds r'))) (hp : ∀ p, M p = none → M0 p = none) (hw : wgt r ≤ 900000) (h : outQ A a (doneBy r x) M0 Q X) :
    m_room_settled A [.obj a, eR x] M (retD Q) X' := ⟨a, r, x, rfl, ha, hw, fun p q => by
  rw [hM]
  exact retD_of (h p (hp p q))⟩

/-! ### Room.come(self, name, wish): 0 self, 1 name, 2 wish -/
def t_room_come_4 (A : Adr) : DSt :=
  (dRet (dMth A.Room "settled" (m_room_settled A) (dVar 0) (dCons (dTup (dCons (dC (.str "came")) (dCons (dVar 1) (dCons (dVar 2) dNil)))) dNil)))
def t_room_come_3 (A : Adr) : DSt :=
  (dSeq (dFldS A.Room "waiting" (dVar 0) (dOp oAdd (dFld A.Room "waiting" (dVar 0)) (dLst (dCons (dTup (dCons (dVar 1) (dCons (dVar 2) (dCons (dC (.int 0)) dNil)))) dNil))))
  (t_room_come_4 A))
def t_room_come_2 (A : Adr) : DSt :=
  (dSeq (dIfS (dOr (dB (dMth A.Room "is_inside" (m_room_is_inside A) (dVar 0) (dCons (dVar 1) dNil))) (dB (dMth A.Room "is_waiting" (m_room_is_waiting A) (dVar 0) (dCons (dVar 1) dNil)))) (dRaise A.Known) dNext)
  (t_room_come_3 A))
def t_room_come_1 (A : Adr) : DSt :=
  (dSeq (dIfS (dNot (dB (dFn m_is_wish (dCons (dVar 2) dNil)))) (dRaise A.BadWish) dNext)
  (t_room_come_2 A))
def t_room_come (A : Adr) : DSt :=
  (dSeq (dIfS (dNot (dB (dFn m_is_name (dCons (dVar 1) dNil)))) (dRaise A.BadName) dNext)
  (t_room_come_1 A))
local macro_rules | `(tactic| walk_at "un") => `(tactic| simp only [t_room_come_4, t_room_come_3, t_room_come_2, t_room_come_1, t_room_come])
def m_room_come (A : Adr) : FDm := fun ds M Q X => ∃ (a : Addr) (r : Rm) (n w : D), ds = [.obj a, n, w] ∧ At A M a r ∧ okD n = true ∧ okD w = true ∧ wgt r ≤ 800000 ∧ outQ A a (comeO r n w) M Q X
theorem len_room_come (A : Adr) : ∀ ds M Q X, m_room_come A ds M Q X → ds.length = 3 := fun ds M Q X ⟨_, _, _, _, h, _⟩ => by subst h; rfl
theorem read_room_come (A : Adr) : ∀ ds M Q X, m_room_come A ds M Q X → t_room_come A (bodyE Q X) (startD 3 ds) M := by
  rintro ds M Q X ⟨a, r, n, w, rfl, ha, hn, hw, hs, h⟩
  have hM : M a = some (.ins A.Room (flds r)) := ha
  unfold comeO at h
  unfold t_room_come
  walk_at "dl"
  refine ⟨hn, cond_of (fun h1 => ?_) fun h1 => ?_⟩
  · have h1 : isName n = false := by simpa using h1
    rw [if_pos h1] at h
    exact retX_of h
  have h1 : isName n = true := by simpa using h1
  rw [if_neg (by rw [h1]; exact Bool.true_eq_false.mp)] at h
  unfold t_room_come_1
  walk_at "dl"
  refine ⟨hw, cond_of (fun h2 => ?_) fun h2 => ?_⟩
  · have h2 : isWish w = false := by simpa using h2
    rw [if_pos h2] at h
    exact retX_of h
  have h2 : isWish w = true := by simpa using h2
  rw [if_neg (by rw [h2]; exact Bool.true_eq_false.mp)] at h
  obtain ⟨z, rfl⟩ := isName_str h1
  obtain ⟨b, rfl⟩ := isWish_str h2
  simp only at h
  rw [wishS_read] at h
  unfold t_room_come_2
  walk_at "dl"
  rw [hM]
  walk_at "dl"
  refine ⟨a, r, z, rfl, ha, ?_⟩
  have hno : (insideB r z || waitsB r z) = true → retX X A.Known [some (.obj a), some (.str z), some (.str (wishS b))] M := fun e => by
    rw [if_pos e] at h
    exact retX_of h
  walk_at "dl"
  refine cond_of (fun h3 => hno (by rw [h3]; rfl)) fun h3 => ?_
  rw [hM]
  walk_at "dl"
  refine ⟨a, r, z, rfl, ha, ?_⟩
  walk_at "dl"
  refine cond_of (fun h4 => hno (by rw [h4, Bool.or_true])) fun h4 => ?_
  rw [if_neg (by rw [h3, h4]; exact Bool.false_ne_true)] at h
  unfold t_room_come_3 t_room_come_4
  walk_at "dl"
  rw [hM]
  walk_at "dl"
  have e1 : eLine r.waiting ++ [D.tup [D.str z, D.str (wishS b), D.int 0]] = eLine (r.waiting ++ [⟨z, b, 0⟩]) := by rw [eLine_app]; rfl
  rw [e1]
  walk_at "dl"
  have hww : r.waiting.length ≤ 800000 := by unfold wgt at hs; omega
  refine ⟨by rw [len_eLine, sizeLine_eq]; show _ + 1 ≤ _; omega, ?_⟩
  rw [hM]
  walk_at "dl"
  refine settled_by (x := .came z b) Mem.set_same (fun r' => Mem.set_set) (fun p hp => set_none hp) ?_ h
  unfold wgt at hs ⊢
  simp only [List.length_append, List.length_singleton]
  omega

/-! ### Room.look(self, name): 0 self, 1 name -/
def t_room_look (A : Adr) : DSt :=
  (dIfS (dOr (dNot (dB (dFn m_is_name (dCons (dVar 1) dNil)))) (dAnd (dNot (dB (dMth A.Room "is_inside" (m_room_is_inside A) (dVar 0) (dCons (dVar 1) dNil)))) (dNot (dB (dMth A.Room "is_waiting" (m_room_is_waiting A) (dVar 0) (dCons (dVar 1) dNil)))))) (dRaise A.Stranger) dNext)
local macro_rules | `(tactic| walk_at "un") => `(tactic| simp only [t_room_look])
def m_room_look (A : Adr) : FDm := fun ds M Q X => ∃ (a : Addr) (r : Rm) (d : D), ds = [.obj a, d] ∧ At A M a r ∧ okD d = true ∧ (hereB r d = false → X A.Stranger M) ∧ (hereB r d = true → Q .non M)
theorem len_room_look (A : Adr) : ∀ ds M Q X, m_room_look A ds M Q X → ds.length = 2 := fun ds M Q X ⟨_, _, _, h, _⟩ => by subst h; rfl
theorem read_room_look (A : Adr) : ∀ ds M Q X, m_room_look A ds M Q X → t_room_look A (bodyE Q X) (startD 2 ds) M := by
  rintro ds M Q X ⟨a, r, d, rfl, ha, hd, hx, hq⟩
  have hM : M a = some (.ins A.Room (flds r)) := ha
  unfold t_room_look
  walk_at "dl"
  refine ⟨hd, cond_of (fun h1 => ?_) fun h1 => ?_⟩
  · refine retX_of (hx ?_)
    have h1 : isName d = false := by simpa using h1
    cases d <;> first | rfl | (have h1 : nameOk _ = false := h1; show (nameOk _ && (insideB r _ || waitsB r _)) = false; rw [h1]; rfl)
  · have h1 : isName d = true := by simpa using h1
    obtain ⟨z, rfl⟩ := isName_str h1
    have h1 : nameOk z = true := h1
    have he : hereB r (.str z) = (insideB r z || waitsB r z) := by
      show (nameOk z && (insideB r z || waitsB r z)) = _
      rw [h1]; rfl
    rw [he] at hx hq
    rw [hM]
    walk_at "dl"
    refine ⟨a, r, z, rfl, ha, ?_⟩
    walk_at "dl"
    rw [hM]
    walk_at "dl"
    cases h2 : insideB r z with
    | true =>
      rw [h2] at hq
      walk_at "dl"
      exact retD_of (hq rfl)
    | false =>
      rw [h2, Bool.false_or] at hq hx
      walk_at "dl"
      refine ⟨a, r, z, rfl, ha, ?_⟩
      walk_at "dl"
      cases h3 : waitsB r z with
      | true =>
        rw [h3] at hq
        walk_at "dl"
        exact retD_of (hq rfl)
      | false =>
        rw [h3] at hx
        walk_at "dl"
        exact retX_of (hx rfl)

/-! ### Room.ask(self, name): 0 self, 1 name -/
def t_room_ask_5 (A : Adr) : DSt :=
  (dRet (dMth A.Room "settled" (m_room_settled A) (dVar 0) (dCons (dTup (dCons (dC (.str "asked")) (dCons (dVar 1) dNil))) dNil)))
def t_room_ask_4 (A : Adr) : DSt :=
  (dSeq (dFldS A.Room "asking" (dVar 0) (dVar 1))
  (t_room_ask_5 A))
def t_room_ask_3 (A : Adr) : DSt :=
  (dSeq (dIfS (dB (dIsN true (dFld A.Room "asking" (dVar 0)))) (dRaise A.Asked) dNext)
  (t_room_ask_4 A))
def t_room_ask_2 (A : Adr) : DSt :=
  (dSeq (dIfS (dB (dIsN true (dFld A.Room "alone" (dVar 0)))) (dRaise A.Writes) dNext)
  (t_room_ask_3 A))
def t_room_ask_1 (A : Adr) : DSt :=
  (dSeq (dIfS (dB (dMth A.Room "is_waiting" (m_room_is_waiting A) (dVar 0) (dCons (dVar 1) dNil))) (dRaise A.Outside) dNext)
  (t_room_ask_2 A))
def t_room_ask (A : Adr) : DSt :=
  (dSeq (dExpr (dMth A.Room "look" (m_room_look A) (dVar 0) (dCons (dVar 1) dNil)))
  (t_room_ask_1 A))
local macro_rules | `(tactic| walk_at "un") => `(tactic| simp only [t_room_ask_5, t_room_ask_4, t_room_ask_3, t_room_ask_2, t_room_ask_1, t_room_ask])
def m_room_ask (A : Adr) : FDm := fun ds M Q X => ∃ (a : Addr) (r : Rm) (n : D), ds = [.obj a, n] ∧ At A M a r ∧ okD n = true ∧ wgt r ≤ 800000 ∧ outQ A a (askO r n) M Q X
theorem len_room_ask (A : Adr) : ∀ ds M Q X, m_room_ask A ds M Q X → ds.length = 2 := fun ds M Q X ⟨_, _, _, h, _⟩ => by subst h; rfl
theorem read_room_ask (A : Adr) : ∀ ds M Q X, m_room_ask A ds M Q X → t_room_ask A (bodyE Q X) (startD 2 ds) M := by
  rintro ds M Q X ⟨a, r, n, rfl, ha, hn, hs, h⟩
  have hM : M a = some (.ins A.Room (flds r)) := ha
  unfold askO at h
  unfold t_room_ask
  walk_at "dl"
  rw [hM]
  walk_at "dl"
  refine ⟨a, r, n, rfl, ha, hn, fun e => ?_, fun e => ?_⟩
  · rw [if_pos e] at h
    exact retX_of h
  rw [if_neg (bt_ne e)] at h
  obtain ⟨z, rfl⟩ := hereB_str e
  simp only at h
  unfold t_room_ask_1
  walk_at "dl"
  rw [hM]
  walk_at "dl"
  refine ⟨a, r, z, rfl, ha, ?_⟩
  walk_at "dl"
  refine cond_of (fun e => ?_) fun e => ?_
  · rw [if_pos e] at h
    exact retX_of h
  rw [if_neg (bf_ne e)] at h
  unfold t_room_ask_2
  walk_at "dl"
  rw [hM]
  walk_at "dl"
  cases hr : r.alone with
  | some y =>
    rw [hr] at h
    show cond true _ _
    rw [cond_true]
    exact retX_of h
  | none =>
    rw [hr] at h
    show cond false _ _
    rw [cond_false]
    unfold t_room_ask_3
    walk_at "dl"
    rw [hM]
    walk_at "dl"
    cases hk : r.asking with
    | some y =>
      rw [hk] at h
      show cond true _ _
      rw [cond_true]
      exact retX_of h
    | none =>
      rw [hk] at h
      show cond false _ _
      rw [cond_false]
      unfold t_room_ask_4 t_room_ask_5
      walk_at "dl"
      rw [hM]
      walk_at "dl"
      rw [hr]
      refine settled_by (x := .asked z) Mem.set_same (fun r' => Mem.set_set) (fun p hp => set_none hp) ?_ h
      unfold wgt at hs ⊢
      rw [hk] at hs
      simp only [Option.isSome_some, Option.isSome_none, cond_true, cond_false] at hs ⊢
      omega

/-! ### _law_room(_law_way, _law_people_here): 0 _law_way, 1 _law_people_here, 2 _law_room_here, 3 _law_wishes, 4 _law_k -/
def t_l_room_L1 (A : Adr) : DSt :=
  (dExpr (dFrz (dMth A.Room "come" (m_room_come A) (dVar 2) (dCons (dOp oIx (dVar 1) (dVar 4)) (dCons (dOp oIx (dOp oIx (dVar 3) (dVar 0)) (dVar 4)) dNil)))))
def t_l_room_5 (A : Adr) : DSt :=
  (dRet (dVar 2))
def t_l_room_4 (A : Adr) : DSt :=
  (dSeq (dIfS (dB (dOp oGt (dVar 0) (dC (.int 4)))) (dExpr (dFrz (dMth A.Room "ask" (m_room_ask A) (dVar 2) (dCons (dOp oIx (dVar 1) (dC (.int 1))) dNil)))) dNext)
  (t_l_room_5 A))
def t_l_room_3 (A : Adr) : DSt :=
  (dSeq (dFor (dRange1 (dCons (dCall (on1 lenD) (dCons (dOp oIx (dVar 3) (dVar 0)) dNil)) dNil)) (dgName 4) (t_l_room_L1 A))
  (t_l_room_4 A))
def t_l_room_2 (A : Adr) : DSt :=
  (dSeq (dExpr (dMet isLst oAppend (dVar 3) (dCons (dLst (dCons (dC (.str "read")) (dCons (dC (.str "read")) (dCons (dC (.str "read")) dNil)))) dNil)))
  (t_l_room_3 A))
def t_l_room_1 (A : Adr) : DSt :=
  (dSeq (dSet 3 (dLstM (dCons (dLst dNil) (dCons (dLst (dCons (dC (.str "read")) dNil)) (dCons (dLst (dCons (dC (.str "write")) dNil)) (dCons (dLst (dCons (dC (.str "read")) (dCons (dC (.str "write")) dNil))) (dCons (dLst (dCons (dC (.str "write")) (dCons (dC (.str "read")) dNil))) (dCons (dLst (dCons (dC (.str "read")) (dCons (dC (.str "read")) dNil))) dNil))))))))
  (t_l_room_2 A))
def t_l_room (A : Adr) : DSt :=
  (dSeq (dSet 2 (dMk A.Room (m_room_init A) (dCons (dC (.int 2)) (dCons (dC (.int 0)) dNil))))
  (t_l_room_1 A))
local macro_rules | `(tactic| walk_at "un") => `(tactic| simp only [t_l_room_5, t_l_room_4, t_l_room_3, t_l_room_2, t_l_room_1, t_l_room])
/-- what the arrangements are -/
def rowsW : Nat → Str → Str → Str → Rm
  | 0, _, _, _ => ⟨2, 0, [], none, none, [], []⟩
  | 1, x, _, _ => ⟨2, 0, [x], none, none, [], [.came x true, .begins x true]⟩
  | 2, x, _, _ => ⟨2, 0, [], some x, none, [], [.came x false, .begins x false]⟩
  | 3, x, y, _ => ⟨2, 0, [x], none, none, [⟨y, false, 0⟩], [.came x true, .begins x true, .came y false]⟩
  | 4, x, y, _ => ⟨2, 0, [], some x, none, [⟨y, true, 0⟩], [.came x false, .begins x false, .came y true]⟩
  | 5, x, y, _ => ⟨2, 0, [x, y], none, some y, [], [.came x true, .begins x true, .came y true, .begins y true, .asked y]⟩
  | _, x, y, z => ⟨2, 0, [x, y], none, some y, [⟨z, true, 0⟩], [.came x true, .begins x true, .came y true, .begins y true, .came z true, .asked y]⟩
def m_l_room (A : Adr) : FDm := fun ds M Q _ => ∃ (way : Nat) (z0 z1 z2 z3 : Str), ds = [.int (way : Int), .lst ([z0, z1, z2, z3].map .str)] ∧ way < 7 ∧ [z0, z1, z2, z3].Nodup ∧ (∀ z ∈ [z0, z1, z2, z3], nameOk z = true) ∧
  ∀ (a : Addr) (M' : Mem), M a = none → Q (.obj a) (M'.set a (.ins A.Room (flds (rowsW way z0 z1 z2))))
theorem len_l_room (A : Adr) : ∀ ds M Q X, m_l_room A ds M Q X → ds.length = 2 := fun ds M Q X ⟨_, _, _, _, _, h, _⟩ => by subst h; rfl
def wlW : Nat → List Bool
  | 0 => []
  | 1 => [true]
  | 2 => [false]
  | 3 => [true, false]
  | 4 => [false, true]
  | 5 => [true, true]
  | _ => [true, true, true]
def partW : Nat → Nat → Str → Str → Str → Rm
  | _, 0, _, _, _ => newRm 2 0
  | 2, 1, x, y, z => rowsW 2 x y z
  | 4, 1, x, y, z => rowsW 2 x y z
  | _, 1, x, y, z => rowsW 1 x y z
  | 3, 2, x, y, z => rowsW 3 x y z
  | 4, 2, x, y, z => rowsW 4 x y z
  | _, 2, x, y, _ => ⟨2, 0, [x, y], none, none, [], [.came x true, .begins x true, .came y true, .begins y true]⟩
  | _, _, x, y, z => ⟨2, 0, [x, y], none, none, [⟨z, true, 0⟩], [.came x true, .begins x true, .came y true, .begins y true, .came z true]⟩
theorem come_eval {r : Rm} {z : Str} {b : Bool} (hn : nameOk z = true) (hk : (insideB r z || waitsB r z) = false) : comeO r (.str z) (.str (wishS b)) = doneBy { r with waiting := r.waiting ++ [⟨z, b, 0⟩] } (.came z b) := by
  unfold comeO
  have h1 : isName (.str z) = true := hn
  have h2 : isWish (.str (wishS b)) = true := by
    show (decide (wishS b = Str.ofString "read") || decide (wishS b = Str.ofString "write")) = true
    rw [wishS_read, wishS_write]
    cases b <;> rfl
  rw [if_neg (bt_ne h1), if_neg (bt_ne h2)]
  simp only
  rw [if_neg (bf_ne hk), wishS_read]
theorem come_part {x y z : Str} (hx : nameOk x = true) (hy : nameOk y = true) (hz : nameOk z = true) (xy : x ≠ y) (xz : x ≠ z) (yz : y ≠ z) : ∀ (way k : Nat) (b : Bool), way < 7 → (wlW way)[k]? = some b → ∃ n l, [x, y, z][k]? = some n ∧ comeO (partW way k x y z) (.str n) (.str (wishS b)) = .did l (partW way (k + 1) x y z) := by
  intro way k b hw hb
  have in1 : ∀ (u v : Str), u ≠ v → decide (v ∈ [u]) = false := fun u v h => decide_eq_false fun e => h (List.mem_singleton.mp e).symm
  have so : ∀ (u v : Str), u ≠ v → decide (some u = some v) = false := fun u v h => decide_eq_false fun e => h (Option.some.inj e)
  have no : ∀ v : Str, decide ((none : Option Str) = some v) = false := fun v => rfl
  have n0 : ∀ v : Str, decide (v ∈ ([] : List Str)) = false := fun v => rfl
  have k0 : ∀ b, comeO (newRm 2 0) (.str x) (.str (wishS b)) = doneBy { newRm 2 0 with waiting := [⟨x, b, 0⟩] } (.came x b) := fun b => come_eval hx rfl
  match way, k, hw, hb with
  | 1, 0, _, hb => cases hb; exact ⟨x, _, rfl, (k0 true).trans rfl⟩
  | 2, 0, _, hb => cases hb; exact ⟨x, _, rfl, (k0 false).trans rfl⟩
  | 3, 0, _, hb => cases hb; exact ⟨x, _, rfl, (k0 true).trans rfl⟩
  | 4, 0, _, hb => cases hb; exact ⟨x, _, rfl, (k0 false).trans rfl⟩
  | 5, 0, _, hb => cases hb; exact ⟨x, _, rfl, (k0 true).trans rfl⟩
  | 6, 0, _, hb => cases hb; exact ⟨x, _, rfl, (k0 true).trans rfl⟩
  | 3, 1, _, hb =>
    cases hb
    refine ⟨y, _, rfl, (come_eval hy ?_).trans rfl⟩
    show ((decide (y ∈ [x]) || decide ((none : Option Str) = some y)) || decide (y ∈ ([] : List Str))) = false
    rw [in1 x y xy, no, n0]; rfl
  | 4, 1, _, hb =>
    cases hb
    refine ⟨y, _, rfl, (come_eval hy ?_).trans rfl⟩
    show ((decide (y ∈ ([] : List Str)) || decide (some x = some y)) || decide (y ∈ ([] : List Str))) = false
    rw [so x y xy, n0]; rfl
  | 5, 1, _, hb =>
    cases hb
    refine ⟨y, _, rfl, (come_eval hy ?_).trans rfl⟩
    show ((decide (y ∈ [x]) || decide ((none : Option Str) = some y)) || decide (y ∈ ([] : List Str))) = false
    rw [in1 x y xy, no, n0]; rfl
  | 6, 1, _, hb =>
    cases hb
    refine ⟨y, _, rfl, (come_eval hy ?_).trans rfl⟩
    show ((decide (y ∈ [x]) || decide ((none : Option Str) = some y)) || decide (y ∈ ([] : List Str))) = false
    rw [in1 x y xy, no, n0]; rfl
  | 6, 2, _, hb =>
    cases hb
    refine ⟨z, _, rfl, (come_eval hz ?_).trans rfl⟩
    show ((decide (z ∈ [x, y]) || decide ((none : Option Str) = some z)) || decide (z ∈ ([] : List Str))) = false
    rw [show decide (z ∈ [x, y]) = false from decide_eq_false fun e => by
      rcases List.mem_cons.mp e with e | e
      · exact xz e.symm
      · exact yz (List.mem_singleton.mp e).symm, no, n0]; rfl
theorem wgt_rows (w : Nat) (x y z : Str) : wgt (rowsW w x y z) ≤ 50 := by
  match w with
  | 0 => exact by show 0 ≤ 50; omega
  | 1 => exact by show 3 ≤ 50; omega
  | 2 => exact by show 2 ≤ 50; omega
  | 3 => exact by show 6 ≤ 50; omega
  | 4 => exact by show 5 ≤ 50; omega
  | 5 => exact by show 9 ≤ 50; omega
  | n + 6 => exact by show 12 ≤ 50; omega
theorem wgt_part (w k : Nat) (x y z : Str) : wgt (partW w k x y z) ≤ 50 := by
  unfold partW
  split <;> first | exact wgt_rows _ _ _ _ | exact (by show 0 ≤ 50; omega) | exact (by show 6 ≤ 50; omega) | exact (by show 9 ≤ 50; omega)
theorem ask_eval {r : Rm} {z : Str} (hn : nameOk z = true) (hi : insideB r z = true) (hw : waitsB r z = false) (ha : r.alone.isSome = false := by rfl) (hk : r.asking.isSome = false := by rfl) : askO r (.str z) = doneBy { r with asking := some z } (.asked z) := by
  unfold askO
  have h1 : hereB r (.str z) = true := by
    show (nameOk z && (insideB r z || waitsB r z)) = true
    rw [hn, hi]; rfl
  rw [if_neg (bt_ne h1)]
  simp only
  rw [if_neg (bf_ne hw), if_neg (bf_ne ha), if_neg (bf_ne hk)]
theorem read_l_room (A : Adr) : ∀ ds M Q X, m_l_room A ds M Q X → t_l_room A (bodyE Q X) (startD 5 ds) M := by
  rintro ds M Q X ⟨way, z0, z1, z2, z3, rfl, hw, nd, hz, h⟩
  unfold t_l_room
  walk_at "dl"
  intro a ha
  refine ⟨a, _, _, rfl, Mem.set_same, rfl, rfl, (fun e => by cases e), fun i j ei ej _ => ?_⟩
  cases ei
  cases ej
  refine ⟨rfl, ?_⟩
  rw [Mem.set_set]
  obtain ⟨hz0, hz1, hz2, _⟩ : nameOk z0 = true ∧ nameOk z1 = true ∧ nameOk z2 = true ∧ nameOk z3 = true := ⟨hz _ (by simp), hz _ (by simp), hz _ (by simp), hz _ (by simp)⟩
  have n01 : z0 ≠ z1 := fun e => by subst e; simp at nd
  have n02 : z0 ≠ z2 := fun e => by subst e; simp at nd
  have n12 : z1 ≠ z2 := fun e => by subst e; simp at nd
  unfold t_l_room_1
  walk_at "dl"
  intro p hp
  have pa : p ≠ a := fun e => by rw [e, Mem.set_same] at hp; cases hp
  have ga : ∀ o, ((M.set a (.ins A.Room (flds (newRm 2 0)))).set p o) a = some (.ins A.Room (flds (newRm 2 0))) := fun o => by rw [Mem.set_ne pa.symm, Mem.set_same]
  unfold t_l_room_2
  walk_at "dl"
  refine ⟨by rw [sizeLine_eq]; show 6 < _; omega, ?_⟩
  have wls : ([D.lst [], D.lst [D.str (Str.ofString "read")], D.lst [D.str (Str.ofString "write")], D.lst [D.str (Str.ofString "read"), D.str (Str.ofString "write")], D.lst [D.str (Str.ofString "write"), D.str (Str.ofString "read")], D.lst [D.str (Str.ofString "read"), D.str (Str.ofString "read")]] ++ [D.lst [D.str (Str.ofString "read"), D.str (Str.ofString "read"), D.str (Str.ofString "read")]] : List D) = (List.range 7).map fun w => D.lst ((wlW w).map fun b => D.str (wishS b)) := by
    rw [← wishS_t, ← wishS_f]
    rfl
  rw [wls]
  have g1 := ga (.lst ((List.range 7).map fun w => D.lst ((wlW w).map fun b => D.str (wishS b))))
  have g2 : ((M.set a (.ins A.Room (flds (newRm 2 0)))).set p (.lst ((List.range 7).map fun w => D.lst ((wlW w).map fun b => D.str (wishS b))))) p = some (.lst ((List.range 7).map fun w => D.lst ((wlW w).map fun b => D.str (wishS b)))) := Mem.set_same
  generalize (M.set a (.ins A.Room (flds (newRm 2 0)))).set p (.lst ((List.range 7).map fun w => D.lst ((wlW w).map fun b => D.str (wishS b)))) = M1 at g1 g2 ⊢
  have enw : nth ((List.range 7).map fun w => D.lst ((wlW w).map fun b => D.str (wishS b))) (way : Int) = some (.lst ((wlW way).map fun b => D.str (wishS b))) := by
    rw [nth_nat, List.getElem?_map, List.getElem?_range hw]
    rfl
  have wl3 : (wlW way).length ≤ 3 := by
    match way, hw with
    | 0, _ | 1, _ | 2, _ | 3, _ | 4, _ | 5, _ | 6, _ => decide
  unfold t_l_room_3
  walk_at "dl"
  rw [res_obj g2]
  walk_at "dl"
  rw [enw, el_some]
  walk_at "dl"
  rw [List.length_map]
  refine ⟨by omega, by omega, ?_⟩
  refine ⟨fun k δ M' => M' a = some (.ins A.Room (flds (partW way k z0 z1 z2))) ∧ M' p = some (.lst ((List.range 7).map fun w => D.lst ((wlW w).map fun b => D.str (wishS b)))) ∧ ∃ o : Option D, δ = [some (.int (way : Int)), some (.lst [.str z0, .str z1, .str z2, .str z3]), some (.obj a), some (.obj p), o], ⟨?_, g2, _, rfl⟩, ?_, ?_⟩
  · rw [g1]
    match way, hw with
    | 0, _ | 1, _ | 2, _ | 3, _ | 4, _ | 5, _ | 6, _ => rfl
  · rintro k x δ M' hx ⟨m1, m2, o, rfl⟩
    refine ⟨trivial, ?_⟩
    obtain ⟨hk2, rfl⟩ := rangeD_get hx
    have hk2 : k < (wlW way).length := by rw [Int.toNat_natCast] at hk2; exact hk2
    have hb := List.getElem?_eq_getElem hk2
    obtain ⟨n, l, en, ec⟩ := come_part hz0 hz1 hz2 n01 n02 n12 way k _ hw hb
    have ez : nth [D.str z0, D.str z1, D.str z2, D.str z3] (k : Int) = some (.str n) := by
      rw [nth_nat]
      have hk3 : k < 3 := by omega
      match k, hk3, en with
      | 0, _, en => cases en; rfl
      | 1, _, en => cases en; rfl
      | 2, _, en => cases en; rfl
    have eb : nth ((wlW way).map fun b => D.str (wishS b)) (k : Int) = some (.str (wishS (wlW way)[k])) := by
      rw [nth_nat, List.getElem?_map, hb]
      rfl
    unfold t_l_room_L1
    walk_at "dl"
    rw [m1]
    walk_at "dl"
    rw [ez, el_some, res_obj m2]
    walk_at "dl"
    rw [enw, el_some]
    walk_at "dl"
    rw [eb, el_some]
    have wg : wgt (partW way k z0 z1 z2) ≤ 800000 := Nat.le_trans (wgt_part way k z0 z1 z2) (by decide)
    refine ⟨a, _, _, _, rfl, m1, rfl, rfl, wg, ?_⟩
    rw [ec]
    intro v hv
    have hv2 : (M'.set a (.ins A.Room (flds (partW way (k + 1) z0 z1 z2)))) v = none := by
      rw [Mem.set_ne (fun e => by rw [e, m1] at hv; cases hv)]
      exact hv
    rw [frz_set_lst, Mem.del_set hv2]
    refine ⟨Mem.set_same, ?_, _, rfl⟩
    rw [Mem.set_ne pa]
    exact m2
  · rintro δ M' ⟨m1, m2, o, rfl⟩
    refine ⟨trivial, ?_⟩
    rw [rangeD_len, Int.toNat_natCast] at m1
    unfold t_l_room_4
    walk_at "dl"
    have fin : ∀ M2 : Mem, t_l_room_5 A (bodyE Q X) [some (.int (way : Int)), some (.lst [.str z0, .str z1, .str z2, .str z3]), some (.obj a), some (.obj p), o] (M2.set a (.ins A.Room (flds (rowsW way z0 z1 z2)))) := fun M2 => by
      unfold t_l_room_5
      walk_at "dl"
      exact retD_of (h a M2 ha)
    have no5 : way < 5 → partW way (wlW way).length z0 z1 z2 = rowsW way z0 z1 z2 := fun h5 => by
      match way, h5 with
      | 0, _ | 1, _ | 2, _ | 3, _ | 4, _ => rfl
    refine cond_dec (fun e => ?_) fun e => ?_
    · rw [m1]
      walk_at "dl"
      have h5 : way = 5 ∨ way = 6 := by omega
      have ea : ∃ l, askO (partW way (wlW way).length z0 z1 z2) (.str z1) = .did l (rowsW way z0 z1 z2) := by
        rcases h5 with rfl | rfl
        · refine ⟨_, (ask_eval hz1 ?_ ?_).trans rfl⟩
          · show (decide (z1 ∈ [z0, z1]) || decide ((none : Option Str) = some z1)) = true
            rw [decide_eq_true (by simp)]; rfl
          · rfl
        · refine ⟨_, (ask_eval hz1 ?_ ?_).trans rfl⟩
          · show (decide (z1 ∈ [z0, z1]) || decide ((none : Option Str) = some z1)) = true
            rw [decide_eq_true (by simp)]; rfl
          · show decide (z1 ∈ [z2]) = false
            exact decide_eq_false fun e => n12 (List.mem_singleton.mp e)
      obtain ⟨l, ea⟩ := ea
      refine ⟨a, _, _, rfl, m1, rfl, Nat.le_trans (wgt_part way _ z0 z1 z2) (by decide), ?_⟩
      rw [ea]
      intro v hv
      have hv2 : (M'.set a (.ins A.Room (flds (rowsW way z0 z1 z2)))) v = none := by
        rw [Mem.set_ne (fun e => by rw [e, m1] at hv; cases hv)]
        exact hv
      rw [frz_set_lst, Mem.del_set hv2]
      exact fin M'
    · have := fin M'
      rw [← no5 (by omega), Mem.set_eq m1] at this
      exact this

/-! ### Room.journal(self): 0 self -/
def t_room_journal (A : Adr) : DSt :=
  (dRet (dCall (on1 listM) (dCons (dFld A.Room "rows" (dVar 0)) dNil)))
local macro_rules | `(tactic| walk_at "un") => `(tactic| simp only [t_room_journal])
def m_room_journal (A : Adr) : FDm := fun ds M Q _ => ∃ (a : Addr) (r : Rm), ds = [.obj a] ∧ At A M a r ∧ ∀ p, M p = none → Q (.obj p) (M.set p (.lst (eRows r.rows)))
theorem len_room_journal (A : Adr) : ∀ ds M Q X, m_room_journal A ds M Q X → ds.length = 1 := fun ds M Q X ⟨_, _, h, _⟩ => by subst h; rfl
theorem read_room_journal (A : Adr) : ∀ ds M Q X, m_room_journal A ds M Q X → t_room_journal A (bodyE Q X) (startD 1 ds) M := by
  rintro ds M Q X ⟨a, r, rfl, ha, h⟩
  unfold t_room_journal
  walk_at "dl"
  rw [show M a = _ from ha]
  walk_at "dl"
  exact fun p hp => retD_of (h p hp)

/-! ### Room.line(self): 0 self, 1 one -/
def t_room_line (A : Adr) : DSt :=
  (dRet (dLcM (dItems (dFld A.Room "waiting" (dVar 0))) 1 dYes (dTup (dCons (dOp oIx (dVar 1) (dC (.int 0))) (dCons (dOp oIx (dVar 1) (dC (.int 1))) dNil)))))
local macro_rules | `(tactic| walk_at "un") => `(tactic| simp only [t_room_line])
/-- one in the line, as told -/
def eT (w : Wt) : D := .tup [.str w.name, .str (wishS w.rd)]
def eTs (l : List Wt) : List D := l.map eT
def told2 : D → D
  | .tup (x :: y :: _) => .tup [x, y]
  | _ => .non
theorem told2_line (l : List Wt) : (eLine l).map told2 = eTs l := by
  unfold eLine eTs
  rw [List.map_map]
  rfl
def m_room_line (A : Adr) : FDm := fun ds M Q _ => ∃ (a : Addr) (r : Rm), ds = [.obj a] ∧ At A M a r ∧ ∀ p, M p = none → Q (.obj p) (M.set p (.lst (eTs r.waiting)))
theorem len_room_line (A : Adr) : ∀ ds M Q X, m_room_line A ds M Q X → ds.length = 1 := fun ds M Q X ⟨_, _, h, _⟩ => by subst h; rfl
theorem read_room_line (A : Adr) : ∀ ds M Q X, m_room_line A ds M Q X → t_room_line A (bodyE Q X) (startD 2 ds) M := by
  rintro ds M Q X ⟨a, r, rfl, ha, h⟩
  unfold t_room_line
  walk_at "dl"
  rw [show M a = _ from ha]
  walk_at "dl"
  refine lcm_map told2 (fun x hx M1 hs Qd q => ?_) fun D0 hD => ?_
  · unfold eLine at hx
    obtain ⟨w, hw, rfl⟩ := List.mem_map.mp hx
    unfold eW
    walk_at "dl"
    exact q
  · rw [told2_line]
    exact retD_of (h D0 hD)

/-! ### Room.asker(self): 0 self -/
def t_room_asker (A : Adr) : DSt :=
  (dRet (dFld A.Room "asking" (dVar 0)))
local macro_rules | `(tactic| walk_at "un") => `(tactic| simp only [t_room_asker])
def m_room_asker (A : Adr) : FDm := fun ds M Q _ => ∃ (a : Addr) (r : Rm), ds = [.obj a] ∧ At A M a r ∧ Q (optS r.asking) M
theorem len_room_asker (A : Adr) : ∀ ds M Q X, m_room_asker A ds M Q X → ds.length = 1 := fun ds M Q X ⟨_, _, h, _⟩ => by subst h; rfl
theorem read_room_asker (A : Adr) : ∀ ds M Q X, m_room_asker A ds M Q X → t_room_asker A (bodyE Q X) (startD 1 ds) M := by
  rintro ds M Q X ⟨a, r, rfl, ha, h⟩
  unfold t_room_asker
  walk_at "dl"
  rw [show M a = _ from ha]
  walk_at "dl"
  exact retD_of h

/-! ### Room.writer(self): 0 self -/
def t_room_writer (A : Adr) : DSt :=
  (dRet (dFld A.Room "alone" (dVar 0)))
local macro_rules | `(tactic| walk_at "un") => `(tactic| simp only [t_room_writer])
def m_room_writer (A : Adr) : FDm := fun ds M Q _ => ∃ (a : Addr) (r : Rm), ds = [.obj a] ∧ At A M a r ∧ Q (optS r.alone) M
theorem len_room_writer (A : Adr) : ∀ ds M Q X, m_room_writer A ds M Q X → ds.length = 1 := fun ds M Q X ⟨_, _, h, _⟩ => by subst h; rfl
theorem read_room_writer (A : Adr) : ∀ ds M Q X, m_room_writer A ds M Q X → t_room_writer A (bodyE Q X) (startD 1 ds) M := by
  rintro ds M Q X ⟨a, r, rfl, ha, h⟩
  unfold t_room_writer
  walk_at "dl"
  rw [show M a = _ from ha]
  walk_at "dl"
  exact retD_of h

/-! ### Room.readers(self): 0 self -/
def t_room_readers (A : Adr) : DSt :=
  (dRet (dCall (on1 listM) (dCons (dFld A.Room "reading" (dVar 0)) dNil)))
local macro_rules | `(tactic| walk_at "un") => `(tactic| simp only [t_room_readers])
def m_room_readers (A : Adr) : FDm := fun ds M Q _ => ∃ (a : Addr) (r : Rm), ds = [.obj a] ∧ At A M a r ∧ ∀ p, M p = none → Q (.obj p) (M.set p (.lst (r.reading.map .str)))
theorem len_room_readers (A : Adr) : ∀ ds M Q X, m_room_readers A ds M Q X → ds.length = 1 := fun ds M Q X ⟨_, _, h, _⟩ => by subst h; rfl
theorem read_room_readers (A : Adr) : ∀ ds M Q X, m_room_readers A ds M Q X → t_room_readers A (bodyE Q X) (startD 1 ds) M := by
  rintro ds M Q X ⟨a, r, rfl, ha, h⟩
  unfold t_room_readers
  walk_at "dl"
  rw [show M a = _ from ha]
  walk_at "dl"
  exact fun p hp => retD_of (h p hp)

/-! ### _law_state(_law_room_here): 0 _law_room_here -/
def t_l_state (A : Adr) : DSt :=
  (dRet (dLst (dCons (dFrz (dMth A.Room "readers" (m_room_readers A) (dVar 0) dNil)) (dCons (dMth A.Room "writer" (m_room_writer A) (dVar 0) dNil) (dCons (dMth A.Room "asker" (m_room_asker A) (dVar 0) dNil) (dCons (dFrz (dMth A.Room "line" (m_room_line A) (dVar 0) dNil)) (dCons (dFrz (dMth A.Room "journal" (m_room_journal A) (dVar 0) dNil)) (dCons (dFld A.Room "seats" (dVar 0)) (dCons (dFld A.Room "patience" (dVar 0)) dNil)))))))))
local macro_rules | `(tactic| walk_at "un") => `(tactic| simp only [t_l_state])
def eState (r : Rm) : List D := [.lst (r.reading.map .str), optS r.alone, optS r.asking, .lst (eTs r.waiting), .lst (eRows r.rows), .int r.seats, .int r.patience]
def m_l_state (A : Adr) : FDm := fun ds M Q _ => ∃ (a : Addr) (r : Rm), ds = [.obj a] ∧ At A M a r ∧ Q (.lst (eState r)) M
theorem len_l_state (A : Adr) : ∀ ds M Q X, m_l_state A ds M Q X → ds.length = 1 := fun ds M Q X ⟨_, _, h, _⟩ => by subst h; rfl
theorem read_l_state (A : Adr) : ∀ ds M Q X, m_l_state A ds M Q X → t_l_state A (bodyE Q X) (startD 1 ds) M := by
  rintro ds M Q X ⟨a, r, rfl, ha, h⟩
  have hM : M a = some (.ins A.Room (flds r)) := ha
  unfold t_l_state
  walk_at "dl"
  rw [hM]
  walk_at "dl"
  refine ⟨a, r, rfl, ha, fun v1 hv1 => ?_⟩
  walk_at "dl"
  rw [Mem.del_set hv1]
  rw [hM]
  walk_at "dl"
  refine ⟨a, r, rfl, ha, ?_⟩
  walk_at "dl"
  rw [hM]
  walk_at "dl"
  refine ⟨a, r, rfl, ha, ?_⟩
  walk_at "dl"
  rw [hM]
  walk_at "dl"
  refine ⟨a, r, rfl, ha, fun v2 hv2 => ?_⟩
  walk_at "dl"
  rw [Mem.del_set hv2, hM]
  walk_at "dl"
  refine ⟨a, r, rfl, ha, fun v3 hv3 => ?_⟩
  walk_at "dl"
  rw [Mem.del_set hv3, hM]
  walk_at "dl"
  exact retD_of h

/-! ### _law_due(_law_way, _law_deed, _law_who, _law_good, _law_wished): 0 _law_way, 1 _law_deed, 2 _law_who, 3 _law_good, 4 _law_wished, 5 _law_inside, 6 _law_waits, 7 _law_writes -/
def t_l_due_10  : DSt :=
  (dRet (dIf (dB (dOp oGt (dVar 0) (dC (.int 4)))) (dC (.int 8)) (dUn oNeg (dC (.int 1)))))
def t_l_due_9  : DSt :=
  (dSeq (dIfS (dB (dVar 7)) (dRet (dC (.int 7))) dNext)
  t_l_due_10)
def t_l_due_8  : DSt :=
  (dSeq (dIfS (dB (dOp oEq (dVar 1) (dC (.int 3)))) (dRet (dIf (dB (dVar 7)) (dUn oNeg (dC (.int 1))) (dC (.int 6)))) dNext)
  t_l_due_9)
def t_l_due_7  : DSt :=
  (dSeq (dSet 7 (dOrV (dOp oEq (dVar 0) (dC (.int 2))) (dOp oEq (dVar 0) (dC (.int 4)))))
  t_l_due_8)
def t_l_due_6  : DSt :=
  (dSeq (dIfS (dB (dOp oIn (dVar 2) (dVar 6))) (dRet (dC (.int 4))) dNext)
  t_l_due_7)
def t_l_due_5  : DSt :=
  (dSeq (dIfS (dB (dOp oEq (dVar 1) (dC (.int 1)))) (dRet (dUn oNeg (dC (.int 1)))) dNext)
  t_l_due_6)
def t_l_due_4  : DSt :=
  (dSeq (dIfS (dB (dOp oEq (dVar 1) (dC (.int 4)))) (dRet (dIf (dB (dOp oIn (dVar 2) (dVar 5))) (dC (.int 5)) (dUn oNeg (dC (.int 1))))) dNext)
  t_l_due_5)
def t_l_due_3  : DSt :=
  (dSeq (dIfS (dOr (dNot (dB (dVar 3))) (dB (dOp oNotIn (dVar 2) (dOp oAdd (dVar 5) (dVar 6))))) (dRet (dC (.int 3))) dNext)
  t_l_due_4)
def t_l_due_2  : DSt :=
  (dSeq (dIfS (dB (dOp oEq (dVar 1) (dC (.int 0)))) (dSeq (dIfS (dNot (dB (dVar 3))) (dRet (dC (.int 0))) dNext)
  (dSeq (dIfS (dNot (dB (dVar 4))) (dRet (dC (.int 1))) dNext)
  (dRet (dIf (dB (dOp oIn (dVar 2) (dOp oAdd (dVar 5) (dVar 6)))) (dC (.int 2)) (dUn oNeg (dC (.int 1))))))) dNext)
  t_l_due_3)
def t_l_due_1  : DSt :=
  (dSeq (dSet 6 (dOp oIx (dLst (dCons (dLst dNil) (dCons (dLst dNil) (dCons (dLst dNil) (dCons (dLst (dCons (dC (.int 1)) dNil)) (dCons (dLst (dCons (dC (.int 1)) dNil)) (dCons (dLst dNil) (dCons (dLst (dCons (dC (.int 2)) dNil)) dNil)))))))) (dVar 0)))
  t_l_due_2)
def t_l_due  : DSt :=
  (dSeq (dSet 5 (dOp oIx (dLst (dCons (dLst dNil) (dCons (dLst (dCons (dC (.int 0)) dNil)) (dCons (dLst (dCons (dC (.int 0)) dNil)) (dCons (dLst (dCons (dC (.int 0)) dNil)) (dCons (dLst (dCons (dC (.int 0)) dNil)) (dCons (dLst (dCons (dC (.int 0)) (dCons (dC (.int 1)) dNil))) (dCons (dLst (dCons (dC (.int 0)) (dCons (dC (.int 1)) dNil))) dNil)))))))) (dVar 0)))
  t_l_due_1)
local macro_rules | `(tactic| walk_at "un") => `(tactic| simp only [t_l_due_10, t_l_due_9, t_l_due_8, t_l_due_7, t_l_due_6, t_l_due_5, t_l_due_4, t_l_due_3, t_l_due_2, t_l_due_1, t_l_due])
def insL : Nat → List Int
  | 0 => []
  | 1 => [0]
  | 2 => [0]
  | 3 => [0]
  | 4 => [0]
  | _ => [0, 1]
def waL : Nat → List Int
  | 3 => [1]
  | 4 => [1]
  | 6 => [2]
  | _ => []
def inI (x : Int) (l : List Int) : Bool := l.any fun y => decide (y = x)
def dueF (way deed : Nat) (who : Int) (good wished : Bool) : Int :=
  match deed with
  | 0 => cond (!good) 0 (cond (!wished) 1 (cond (inI who (insL way ++ waL way)) 2 (-1)))
  | d + 1 => cond (!good || !inI who (insL way ++ waL way)) 3 (match d with
    | 3 => cond (inI who (insL way)) 5 (-1)
    | 0 => -1
    | 2 => cond (inI who (waL way)) 4 (cond (decide (way = 2) || decide (way = 4)) (-1) 6)
    | _ => cond (inI who (waL way)) 4 (cond (decide (way = 2) || decide (way = 4)) 7 (cond (decide (4 < way)) 8 (-1))))
def m_l_due : FDm := fun ds M Q _ => ∃ (way deed : Nat) (who : Int) (good wished : Bool), ds = [.int (way : Int), .int (deed : Int), .int who, .bl good, .bl wished] ∧ way < 7 ∧ deed < 5 ∧ Q (.int (dueF way deed who good wished)) M
theorem len_l_due : ∀ ds M Q X, m_l_due ds M Q X → ds.length = 5 := fun ds M Q X ⟨_, _, _, _, _, h, _⟩ => by subst h; rfl
theorem inD_ints (x : Int) (l : List Int) : inD (.int x) (l.map .int) = inI x l := by
  unfold inD inI
  rw [List.any_map]
  rfl
theorem flatD_ints (l : List Int) : (l.map D.int).all flatD = true := by
  rw [List.all_map]
  exact List.all_eq_true.mpr fun _ _ => rfl
theorem read_l_due : ∀ ds M Q X, m_l_due ds M Q X → t_l_due (bodyE Q X) (startD 8 ds) M := by
  rintro ds M Q X ⟨way, deed, who, good, wished, rfl, hw, hd, h⟩
  unfold t_l_due
  walk_at "dl"
  have e1 : nth [D.lst [], D.lst [D.int 0], D.lst [D.int 0], D.lst [D.int 0], D.lst [D.int 0], D.lst [D.int 0, D.int 1], D.lst [D.int 0, D.int 1]] (way : Int) = some (.lst ((insL way).map .int)) := by
    rw [nth_nat]
    match way, hw with
    | 0, _ | 1, _ | 2, _ | 3, _ | 4, _ | 5, _ | 6, _ => rfl
  have e2 : nth [D.lst [], D.lst [], D.lst [], D.lst [D.int 1], D.lst [D.int 1], D.lst [], D.lst [D.int 2]] (way : Int) = some (.lst ((waL way).map .int)) := by
    rw [nth_nat]
    match way, hw with
    | 0, _ | 1, _ | 2, _ | 3, _ | 4, _ | 5, _ | 6, _ => rfl
  rw [e1, el_some]
  unfold t_l_due_1
  walk_at "dl"
  rw [e2, el_some]
  unfold t_l_due_2
  walk_at "dl"
  have sl : (List.map D.int (insL way)).length + (List.map D.int (waL way)).length ≤ sizeLine := by
    rw [sizeLine_eq, List.length_map, List.length_map]
    match way, hw with
    | 0, _ | 1, _ | 2, _ | 3, _ | 4, _ | 5, _ | 6, _ => decide
  rw [← List.map_append, inD_ints]
  have fl := flatD_ints (insL way ++ waL way)
  have dec : ∀ (m : Nat), decide ((deed : Int) = (m : Int)) = decide (deed = m) := fun m => decide_eq_decide.mpr (by omega)
  match deed, hd with
  | 0, _ =>
    have h : Q (.int (cond (!good) 0 (cond (!wished) 1 (cond (inI who (insL way ++ waL way)) 2 (-1))))) M := h
    rw [show decide (((0 : Nat) : Int) = 0) = true from rfl, cond_true]
    cases good with
    | false => exact retD_of h
    | true =>
      cases wished with
      | false => exact retD_of h
      | true =>
        refine ⟨sl, fl, ?_⟩
        cases e : inI who (insL way ++ waL way) with
        | true => rw [e] at h; exact retD_of h
        | false => rw [e] at h; exact retD_of h
  | d + 1, hd =>
    rw [show decide (((d + 1 : Nat) : Int) = 0) = false from decide_eq_false (by omega), cond_false]
    unfold t_l_due_3
    walk_at "dl"
    have dq : ∀ m : Nat, decide (((d + 1 : Nat) : Int) = ((m + 1 : Nat) : Int)) = decide (d = m) := fun m => decide_eq_decide.mpr (by omega)
    have d4 : decide (((d + 1 : Nat) : Int) = 4) = decide (d = 3) := dq 3
    have d1 : decide (((d + 1 : Nat) : Int) = 1) = decide (d = 0) := dq 0
    have d3 : decide (((d + 1 : Nat) : Int) = 3) = decide (d = 2) := dq 2
    have w2 : decide ((way : Int) = 2) = decide (way = 2) := decide_eq_decide.mpr (by omega)
    have w4 : decide ((way : Int) = 4) = decide (way = 4) := decide_eq_decide.mpr (by omega)
    have w5 : decide ((4 : Int) < (way : Int)) = decide (4 < way) := decide_eq_decide.mpr (by omega)
    unfold dueF at h
    simp only at h
    cases good with
    | false => exact retD_of h
    | true =>
      rw [Bool.not_true, cond_false]
      rw [← List.map_append, inD_ints]
      refine ⟨sl, fl, ?_⟩
      cases e : inI who (insL way ++ waL way) with
      | false => rw [e] at h; exact retD_of h
      | true =>
        rw [e] at h
        show t_l_due_4 _ _ _
        unfold t_l_due_4
        walk_at "dl"
        rw [d4]
        match d, hd with
        | 3, _ =>
          show _ ∧ _
          rw [inD_ints]
          refine ⟨flatD_ints _, ?_⟩
          have h : Q (.int (cond (inI who (insL way)) 5 (-1))) M := h
          cases e2 : inI who (insL way) with
          | true => rw [e2] at h; exact retD_of h
          | false => rw [e2] at h; exact retD_of h
        | 0, _ =>
          show t_l_due_5 _ _ _
          unfold t_l_due_5
          walk_at "dl"
          rw [d1]
          exact retD_of h
        | 1, _ =>
          show t_l_due_5 _ _ _
          unfold t_l_due_5
          walk_at "dl"
          rw [d1]
          show t_l_due_6 _ _ _
          unfold t_l_due_6
          walk_at "dl"
          rw [inD_ints]
          refine ⟨flatD_ints _, ?_⟩
          have h : Q (.int (cond (inI who (waL way)) 4 (cond (decide (way = 2) || decide (way = 4)) 7 (cond (decide (4 < way)) 8 (-1))))) M := h
          cases e2 : inI who (waL way) with
          | true => rw [e2] at h; exact retD_of h
          | false =>
            rw [e2] at h
            have h : Q (.int (cond (decide (way = 2) || decide (way = 4)) 7 (cond (decide (4 < way)) 8 (-1)))) M := h
            show t_l_due_7 _ _ _
            unfold t_l_due_7
            walk_at "dl"
            rw [w2, w4]
            have fin8 : ∀ b : Bool, b = (decide (way = 2) || decide (way = 4)) → t_l_due_8 (bodyE Q X) [some (.int (way : Int)), some (.int ((1 + 1 : Nat) : Int)), some (.int who), some (.bl true), some (.bl wished), some (.lst ((insL way).map .int)), some (.lst ((waL way).map .int)), some (.bl b)] M := fun b eb => by
              rw [← eb] at h
              unfold t_l_due_8
              walk_at "dl"
              rw [d3]
              show t_l_due_9 _ _ _
              unfold t_l_due_9
              walk_at "dl"
              cases b with
              | true => exact retD_of h
              | false =>
                show t_l_due_10 _ _ _
                unfold t_l_due_10
                walk_at "dl"
                rw [w5]
                have h : Q (.int (cond (decide (4 < way)) 8 (-1))) M := h
                cases e4 : decide (4 < way) with
                | true => rw [e4] at h; exact retD_of h
                | false => rw [e4] at h; exact retD_of h
            cases e3 : decide (way = 2) with
            | true => exact fin8 true (by rw [e3]; rfl)
            | false => exact fin8 _ (by rw [e3]; rfl)
        | 2, _ =>
          show t_l_due_5 _ _ _
          unfold t_l_due_5
          walk_at "dl"
          rw [d1]
          show t_l_due_6 _ _ _
          unfold t_l_due_6
          walk_at "dl"
          rw [inD_ints]
          refine ⟨flatD_ints _, ?_⟩
          have h : Q (.int (cond (inI who (waL way)) 4 (cond (decide (way = 2) || decide (way = 4)) (-1) 6))) M := h
          cases e2 : inI who (waL way) with
          | true => rw [e2] at h; exact retD_of h
          | false =>
            rw [e2] at h
            have h : Q (.int (cond (decide (way = 2) || decide (way = 4)) (-1) 6)) M := h
            show t_l_due_7 _ _ _
            unfold t_l_due_7
            walk_at "dl"
            rw [w2, w4]
            have fin8 : ∀ b : Bool, b = (decide (way = 2) || decide (way = 4)) → t_l_due_8 (bodyE Q X) [some (.int (way : Int)), some (.int ((2 + 1 : Nat) : Int)), some (.int who), some (.bl true), some (.bl wished), some (.lst ((insL way).map .int)), some (.lst ((waL way).map .int)), some (.bl b)] M := fun b eb => by
              rw [← eb] at h
              unfold t_l_due_8
              walk_at "dl"
              rw [d3]
              show cond b _ _
              cases b with
              | true => exact retD_of h
              | false => exact retD_of h
            cases e3 : decide (way = 2) with
            | true => exact fin8 true (by rw [e3]; rfl)
            | false => exact fin8 _ (by rw [e3]; rfl)

/-! ### Room.leave(self, name): 0 self, 1 name, 2 one -/
def t_room_leave_5 (A : Adr) : DSt :=
  (dRet (dMth A.Room "settled" (m_room_settled A) (dVar 0) (dCons (dTup (dCons (dC (.str "left")) (dCons (dVar 1) dNil))) dNil)))
def t_room_leave_4 (A : Adr) : DSt :=
  (dSeq (dIfS (dAnd (dB (dIsN true (dFld A.Room "asking" (dVar 0)))) (dB (dOp oEq (dFld A.Room "asking" (dVar 0)) (dVar 1)))) (dFldS A.Room "asking" (dVar 0) (dC .non)) dNext)
  (t_room_leave_5 A))
def t_room_leave_3 (A : Adr) : DSt :=
  (dSeq (dIfS (dAnd (dB (dIsN true (dFld A.Room "alone" (dVar 0)))) (dB (dOp oEq (dFld A.Room "alone" (dVar 0)) (dVar 1)))) (dFldS A.Room "alone" (dVar 0) (dC .non)) dNext)
  (t_room_leave_4 A))
def t_room_leave_2 (A : Adr) : DSt :=
  (dSeq (dFldS A.Room "waiting" (dVar 0) (dLc (dItems (dFld A.Room "waiting" (dVar 0))) 2 (dB (dOp oNe (dOp oIx (dVar 2) (dC (.int 0))) (dVar 1))) (dVar 2)))
  (t_room_leave_3 A))
def t_room_leave_1 (A : Adr) : DSt :=
  (dSeq (dFldS A.Room "reading" (dVar 0) (dLc (dItems (dFld A.Room "reading" (dVar 0))) 2 (dB (dOp oNe (dVar 2) (dVar 1))) (dVar 2)))
  (t_room_leave_2 A))
def t_room_leave (A : Adr) : DSt :=
  (dSeq (dExpr (dMth A.Room "look" (m_room_look A) (dVar 0) (dCons (dVar 1) dNil)))
  (t_room_leave_1 A))
local macro_rules | `(tactic| walk_at "un") => `(tactic| simp only [t_room_leave_5, t_room_leave_4, t_room_leave_3, t_room_leave_2, t_room_leave_1, t_room_leave])
def m_room_leave (A : Adr) : FDm := fun ds M Q X => ∃ (a : Addr) (r : Rm) (n : D), ds = [.obj a, n] ∧ At A M a r ∧ okD n = true ∧ wgt r ≤ 800000 ∧ outQ A a (leaveO r n) M Q X
theorem len_room_leave (A : Adr) : ∀ ds M Q X, m_room_leave A ds M Q X → ds.length = 2 := fun ds M Q X ⟨_, _, _, h, _⟩ => by subst h; rfl
theorem read_room_leave (A : Adr) : ∀ ds M Q X, m_room_leave A ds M Q X → t_room_leave A (bodyE Q X) (startD 3 ds) M := by
  rintro ds M Q X ⟨a, r, n, rfl, ha, hn, hs, h⟩
  have hM : M a = some (.ins A.Room (flds r)) := ha
  unfold leaveO at h
  unfold t_room_leave
  walk_at "dl"
  rw [hM]
  walk_at "dl"
  refine ⟨a, r, n, rfl, ha, hn, fun e => ?_, fun e => ?_⟩
  · rw [if_pos e] at h
    exact retX_of h
  rw [if_neg (bt_ne e)] at h
  obtain ⟨z, rfl⟩ := hereB_str e
  simp only at h
  unfold t_room_leave_1
  walk_at "dl"
  rw [hM]
  walk_at "dl"
  refine lc_pure (keepS z) id (fun x hx M1 hs Qb q => ?_) (fun x hx _ M1 hs Qd q => ?_) ?_
  · obtain ⟨y, hy, rfl⟩ := List.mem_map.mp hx
    walk_at "dl"
    exact q
  · walk_at "dl"
    exact q
  rw [keepS_names]
  walk_at "dl"
  rw [hM]
  walk_at "dl"
  unfold t_room_leave_2
  walk_at "dl"
  refine lc_pure (keepW z) id (fun x hx M1 hs Qb q => ?_) (fun x hx _ M1 hs Qd q => ?_) ?_
  · unfold eLine at hx
    obtain ⟨w, hw, rfl⟩ := List.mem_map.mp hx
    unfold eW
    walk_at "dl"
    exact q
  · walk_at "dl"
    exact q
  rw [keepW_line]
  walk_at "dl"
  have hw1 : (r.reading.filter (fun y => !decide (y = z))).length ≤ r.reading.length := List.length_filter_le _ _
  have hw2 : (r.waiting.filter (fun w => !decide (w.name = z))).length ≤ r.waiting.length := List.length_filter_le _ _
  generalize hr' : goneR r z = r' at h
  unfold goneR at hr'
  generalize r.reading.filter (fun y => !decide (y = z)) = rd at hw1 hr' ⊢
  generalize r.waiting.filter (fun w => !decide (w.name = z)) = wt at hw2 hr' ⊢
  unfold wgt at hs
  have fin : ∀ al as, r' = { r with reading := rd, waiting := wt, alone := al, asking := as } → t_room_leave_5 A (bodyE Q X) [some (.obj a), some (.str z), none] (M.set a (.ins A.Room (flds { r with reading := rd, waiting := wt, alone := al, asking := as }))) := fun al as e => by
    unfold t_room_leave_5
    walk_at "dl"
    rw [← e]
    refine settled_by (x := .left z) Mem.set_same (fun r' => Mem.set_set) (fun p hp => set_none hp) ?_ h
    rw [e]
    unfold wgt
    simp only
    have : cond as.isSome 2 0 ≤ 2 := by cases as <;> simp
    omega
  have fin4 : ∀ al, (if r.alone = some z then none else r.alone) = al → t_room_leave_4 A (bodyE Q X) [some (.obj a), some (.str z), none] (M.set a (.ins A.Room (flds { r with reading := rd, waiting := wt, alone := al }))) := fun al e => by
    unfold t_room_leave_4
    walk_at "dl"
    rw [e] at hr'
    cases hk : r.asking with
    | none =>
      rw [hk] at hr'
      show cond false _ _
      rw [cond_false]
      exact fin al none (by rw [← hr']; rfl)
    | some y =>
      rw [hk] at hr'
      show cond true _ _
      rw [cond_true]
      walk_at "dl"
      refine cond_dec (fun e2 => ?_) fun e2 => ?_
      · rw [if_pos (by rw [e2])] at hr'
        exact fin al none hr'.symm
      · rw [if_neg (fun e3 => e2 (Option.some.inj e3))] at hr'
        exact fin al (some y) hr'.symm
  unfold t_room_leave_3
  walk_at "dl"
  cases hk : r.alone with
  | none =>
    rw [hk] at fin4
    show cond false _ _
    rw [cond_false]
    exact fin4 none rfl
  | some y =>
    rw [hk] at fin4
    show cond true _ _
    rw [cond_true]
    walk_at "dl"
    refine cond_dec (fun e2 => ?_) fun e2 => ?_
    · exact fin4 none (if_pos (by rw [e2]))
    · exact fin4 (some y) (if_neg (fun e3 => e2 (Option.some.inj e3)))

/-! ### Room.ease(self, name): 0 self, 1 name -/
def t_room_ease_5 (A : Adr) : DSt :=
  (dRet (dMth A.Room "settled" (m_room_settled A) (dVar 0) (dCons (dTup (dCons (dC (.str "eased")) (dCons (dVar 1) dNil))) dNil)))
def t_room_ease_4 (A : Adr) : DSt :=
  (dSeq (dFldS A.Room "reading" (dVar 0) (dLst (dCons (dVar 1) dNil)))
  (t_room_ease_5 A))
def t_room_ease_3 (A : Adr) : DSt :=
  (dSeq (dFldS A.Room "alone" (dVar 0) (dC .non))
  (t_room_ease_4 A))
def t_room_ease_2 (A : Adr) : DSt :=
  (dSeq (dIfS (dB (dIsN false (dFld A.Room "alone" (dVar 0)))) (dRaise A.Reads) dNext)
  (t_room_ease_3 A))
def t_room_ease_1 (A : Adr) : DSt :=
  (dSeq (dIfS (dB (dMth A.Room "is_waiting" (m_room_is_waiting A) (dVar 0) (dCons (dVar 1) dNil))) (dRaise A.Outside) dNext)
  (t_room_ease_2 A))
def t_room_ease (A : Adr) : DSt :=
  (dSeq (dExpr (dMth A.Room "look" (m_room_look A) (dVar 0) (dCons (dVar 1) dNil)))
  (t_room_ease_1 A))
local macro_rules | `(tactic| walk_at "un") => `(tactic| simp only [t_room_ease_5, t_room_ease_4, t_room_ease_3, t_room_ease_2, t_room_ease_1, t_room_ease])
def m_room_ease (A : Adr) : FDm := fun ds M Q X => ∃ (a : Addr) (r : Rm) (n : D), ds = [.obj a, n] ∧ At A M a r ∧ okD n = true ∧ wgt r ≤ 800000 ∧ outQ A a (easeO r n) M Q X
theorem len_room_ease (A : Adr) : ∀ ds M Q X, m_room_ease A ds M Q X → ds.length = 2 := fun ds M Q X ⟨_, _, _, h, _⟩ => by subst h; rfl
theorem read_room_ease (A : Adr) : ∀ ds M Q X, m_room_ease A ds M Q X → t_room_ease A (bodyE Q X) (startD 2 ds) M := by
  rintro ds M Q X ⟨a, r, n, rfl, ha, hn, hs, h⟩
  have hM : M a = some (.ins A.Room (flds r)) := ha
  unfold easeO at h
  unfold t_room_ease
  walk_at "dl"
  rw [hM]
  walk_at "dl"
  refine ⟨a, r, n, rfl, ha, hn, fun e => ?_, fun e => ?_⟩
  · rw [if_pos e] at h
    exact retX_of h
  rw [if_neg (bt_ne e)] at h
  obtain ⟨z, rfl⟩ := hereB_str e
  simp only at h
  unfold t_room_ease_1
  walk_at "dl"
  rw [hM]
  walk_at "dl"
  refine ⟨a, r, z, rfl, ha, ?_⟩
  walk_at "dl"
  refine cond_of (fun e => ?_) fun e => ?_
  · rw [if_pos e] at h
    exact retX_of h
  rw [if_neg (bf_ne e)] at h
  unfold t_room_ease_2
  walk_at "dl"
  rw [hM]
  walk_at "dl"
  cases hr : r.alone with
  | none =>
    rw [hr] at h
    show cond true _ _
    rw [cond_true]
    exact retX_of h
  | some y =>
    rw [hr] at h
    show cond false _ _
    rw [cond_false]
    unfold t_room_ease_3 t_room_ease_4 t_room_ease_5
    walk_at "dl"
    rw [hM]
    walk_at "dl"
    refine settled_by (x := .eased z) Mem.set_same (fun r' => Mem.set_set) (fun p hp => set_none hp) ?_ h
    unfold wgt at hs ⊢
    simp only [List.length_singleton]
    omega

/-! ### Room.passed(self, name): 0 self, 1 name, 2 one -/
def t_room_passed_2 (A : Adr) : DSt :=
  (dRet (dCall (on1 sumD) (dCons (dLc (dItems (dFld A.Room "waiting" (dVar 0))) 2 (dB (dOp oEq (dOp oIx (dVar 2) (dC (.int 0))) (dVar 1))) (dOp oIx (dVar 2) (dC (.int 2)))) dNil)))
def t_room_passed_1 (A : Adr) : DSt :=
  (dSeq (dIfS (dB (dMth A.Room "is_inside" (m_room_is_inside A) (dVar 0) (dCons (dVar 1) dNil))) (dRaise A.Inside) dNext)
  (t_room_passed_2 A))
def t_room_passed (A : Adr) : DSt :=
  (dSeq (dExpr (dMth A.Room "look" (m_room_look A) (dVar 0) (dCons (dVar 1) dNil)))
  (t_room_passed_1 A))
local macro_rules | `(tactic| walk_at "un") => `(tactic| simp only [t_room_passed_2, t_room_passed_1, t_room_passed])
def m_room_passed (A : Adr) : FDm := fun ds M Q X => ∃ (a : Addr) (r : Rm) (n : D), ds = [.obj a, n] ∧ At A M a r ∧ okD n = true ∧ (hereB r n = false → X A.Stranger M) ∧
  (∀ z, n = .str z → hereB r n = true → (insideB r z = true → X A.Inside M) ∧ (insideB r z = false → Q (.int (passedI r z)) M))
theorem len_room_passed (A : Adr) : ∀ ds M Q X, m_room_passed A ds M Q X → ds.length = 2 := fun ds M Q X ⟨_, _, _, h, _⟩ => by subst h; rfl
def ofW (z : Str) : D → Bool
  | .tup (.str y :: _) => decide (y = z)
  | _ => false
def nW : D → D
  | .tup [_, _, n] => n
  | _ => .non
theorem ofW_line (z : Str) (l : List Wt) : ((eLine l).filter (ofW z)).map nW = ((l.filter fun w => decide (w.name = z)).map (·.n)).map .int := by
  unfold eLine
  rw [List.filter_map, List.map_map, List.map_map]
  rfl
theorem read_room_passed (A : Adr) : ∀ ds M Q X, m_room_passed A ds M Q X → t_room_passed A (bodyE Q X) (startD 3 ds) M := by
  rintro ds M Q X ⟨a, r, n, rfl, ha, hn, hx, hq⟩
  have hM : M a = some (.ins A.Room (flds r)) := ha
  unfold t_room_passed
  walk_at "dl"
  rw [hM]
  walk_at "dl"
  refine ⟨a, r, n, rfl, ha, hn, fun e => retX_of (hx e), fun e => ?_⟩
  obtain ⟨z, rfl⟩ := hereB_str e
  obtain ⟨h1, h2⟩ := hq z rfl e
  unfold t_room_passed_1
  walk_at "dl"
  rw [hM]
  walk_at "dl"
  refine ⟨a, r, z, rfl, ha, ?_⟩
  walk_at "dl"
  refine cond_of (fun e => retX_of (h1 e)) fun e => ?_
  unfold t_room_passed_2
  walk_at "dl"
  rw [hM]
  walk_at "dl"
  refine lc_pure (ofW z) nW (fun x hx M1 hs Qb q => ?_) (fun x hx _ M1 hs Qd q => ?_) ?_
  · unfold eLine at hx
    obtain ⟨w, hw, rfl⟩ := List.mem_map.mp hx
    unfold eW
    walk_at "dl"
    exact q
  · unfold eLine at hx
    obtain ⟨w, hw, rfl⟩ := List.mem_map.mp hx
    unfold eW
    walk_at "dl"
    exact q
  · rw [ofW_line]
    walk_at "dl"
    exact ⟨_, rfl, retD_of (h2 e)⟩

/-! ### _law_whole(_law_found): 0 _law_found -/
def t_l_whole  : DSt :=
  (dRet (dAndV (dCall (on2 isiD) (dCons (dVar 0) (dCons (dC (.ty "int")) dNil))) (dNotV (dCall (on2 isiD) (dCons (dVar 0) (dCons (dC (.ty "bool")) dNil))))))
local macro_rules | `(tactic| walk_at "un") => `(tactic| simp only [t_l_whole])
def isWhole : D → Bool
  | .int _ => true
  | _ => false
def m_l_whole : FDm := fun ds M Q _ => match ds with
  | [d] => okD d = true ∧ Q (.bl (isWhole d)) M
  | _ => False
theorem len_l_whole : ∀ ds M Q X, m_l_whole ds M Q X → ds.length = 1 := fun ds M Q X h => by
  unfold m_l_whole at h
  split at h <;> first | rfl | exact h.elim
theorem read_l_whole : ∀ ds M Q X, m_l_whole ds M Q X → t_l_whole (bodyE Q X) (startD 1 ds) M := by
  intro ds M Q X h
  unfold m_l_whole at h
  split at h
  rotate_left
  · exact h.elim
  rename_i d
  obtain ⟨hd, h⟩ := h
  walk_at "un"
  cases d with
  | scr b => cases hd
  | obj b => cases hd
  | ty b => cases hd
  | _ =>
    walk_at "dl"
    exact retD_of h
-- SIMP m_l_whole isWhole

local macro_rules | `(tactic| walk_at "dl") => `(tactic| try simp -implicitDefEqProofs only [DL.dNext, DL.dSeq, DL.dExpr, DL.dRet, DL.dIfS, DL.dSet, DL.dCont, DL.dRaise, DL.dFor, DL.dgName, DL.dgPair, DL.dTry, DL.dFn, DL.dMth, DL.dMk, DL.dFld, DL.dFldS, DL.dPut, DL.dVar, DL.slot, DL.dC, DL.dOp, DL.dUn, DL.oSub, DL.oMul, DL.oDiv, DL.oMod, DL.oPow, DL.oLt, DL.oLe, DL.oGt, DL.oGe, DL.oEq, DL.oNe, DL.oIn, DL.oNotIn, DL.dB, DL.dIsN, DL.dChain, DL.dAnd, DL.dOr, DL.dNot, DL.dAndV, DL.dOrV, DL.dNotV, DL.dIf, DL.dNil, DL.dCons, DL.few, DL.dLst, DL.dTup, DL.dLstM, DL.dFrz, DL.dPairs, DL.dDisp, DL.dDic0, DL.dSl, DL.dNoPart, DL.dCall, DL.dMet0L, DL.dMet, DL.dItems, DL.dRange1, DL.dEnum, DL.dLcM, DL.dwipe, DL.startD, DL.dNever, DL.el_some, DL.elL_lst, DL.elD_dic, DL.elI_ins, DL.res_non, DL.res_bl, DL.res_int, DL.res_str, DL.res_lst, DL.res_tupE, DL.res_dic, DL.res_scr, DL.res_ty, DL.oAdd_eq, DL.addR_int, DL.addR_str, DL.addR_lst, DL.addR_tup, DL.oAddM_eq, DL.addMR_lst, DL.oInt_eq, DL.intR_int, DL.oInt0_eq, DL.int0R_int, DL.oNeg_eq, DL.negR_int, DL.oEqN_eq, DL.eqR_some, DL.eqR_none, DL.eqS_non_non, DL.eqS_non_int, DL.eqS_non_bl, DL.eqS_non_str, DL.eqS_non_lst, DL.eqS_non_tup, DL.eqS_int_non, DL.eqS_int_int, DL.eqS_int_bl, DL.eqS_int_str, DL.eqS_int_lst, DL.eqS_int_tup, DL.eqS_bl_non, DL.eqS_bl_int, DL.eqS_bl_bl, DL.eqS_bl_str, DL.eqS_bl_lst, DL.eqS_bl_tup, DL.eqS_str_non, DL.eqS_str_int, DL.eqS_str_bl, DL.eqS_str_str, DL.eqS_str_lst, DL.eqS_str_tup, DL.eqS_lst_non, DL.eqS_lst_int, DL.eqS_lst_bl, DL.eqS_lst_str, DL.eqS_lst_lst, DL.eqS_lst_tup, DL.eqS_tup_non, DL.eqS_tup_int, DL.eqS_tup_bl, DL.eqS_tup_str, DL.eqS_tup_lst, DL.eqS_tup_tup, DL.eqS_obj_non, DL.eqS_non_obj, DL.eqS_obj_int, DL.eqS_int_obj, DL.eqS_obj_bl, DL.eqS_bl_obj, DL.eqS_obj_str, DL.eqS_str_obj, DL.eqS_obj_lst, DL.eqS_lst_obj, DL.eqS_obj_tup, DL.eqS_tup_obj, DL.eqS_obj_obj, DL.oInN_eq, DL.inR_lst, DL.inR_tup, DL.inR_str, DL.flatD_non, DL.flatD_bl, DL.flatD_int, DL.flatD_str, DL.asB_bl, DL.isN_non, DL.isN_bl, DL.isN_int, DL.isN_str, DL.isN_lst, DL.isN_tup, DL.isN_dic, DL.isN_scr, DL.isN_ty, DL.isN_obj, DL.frz_non, DL.frz_bl, DL.frz_int, DL.frz_str, DL.frz_lst, DL.frz_tup, DL.frz_dic, DL.frz_scr, DL.frz_ty, DL.oIx_eq, DL.ixR_lst, DL.ixR_tup, DL.ixR_scr, DL.ixR_str, DL.ixR_dic, DL.nth_0, DL.nth_1, DL.nth_2, DL.nth_3, DL.oSl_eq, DL.slR_lst, DL.slR_tup, DL.slR_str, DL.dPart_eq, DL.partR_int, DL.on1_cons, DL.on2_cons, DL.lenD_lst, DL.lenD_tup, DL.lenD_scr, DL.lenD_str, DL.intD_int, DL.intD_bl, DL.strD_int, DL.int2_int, DL.listM_lst, DL.listF_lst, DL.listM_tup, DL.listF_tup, DL.dictM_dic, DL.isiD_ty, DL.oAppend_obj, DL.oInsert_obj, DL.oPop_obj, DL.oPopAt_obj, DL.isLst_eq, DL.isLstR_lst, DL.isStr_str, DL.oSplit_str, DL.oJoin_str, DL.itemsOf_lst, DL.itemsOf_tup, DL.itemsOf_str, DL.rng1_int, DL.enumOf_lst, DL.two_tup, DL.insIs_obj, DL.getFld_obj, DL.setFld_obj, DL.putDic_obj, DL.isB_str_non, DL.isB_str_bl, DL.isB_str_int, DL.isB_str_str, DL.isB_str_lst, DL.isB_str_tup, DL.isB_str_dic, DL.isB_int_non, DL.isB_int_bl, DL.isB_int_int, DL.isB_int_str, DL.isB_int_lst, DL.isB_int_tup, DL.isB_int_dic, DL.isB_bool_non, DL.isB_bool_bl, DL.isB_bool_int, DL.isB_bool_str, DL.isB_bool_lst, DL.isB_bool_tup, DL.isB_bool_dic, DL.isB_list_non, DL.isB_list_bl, DL.isB_list_int, DL.isB_list_str, DL.isB_list_lst, DL.isB_list_tup, DL.isB_list_dic, DL.isB_tuple_non, DL.isB_tuple_bl, DL.isB_tuple_int, DL.isB_tuple_str, DL.isB_tuple_lst, DL.isB_tuple_tup, DL.isB_tuple_dic, Bool.cond_true, Bool.cond_false, L2.CDiv, Int.reduceLT, Int.reduceLE, true_and, and_true, cond_true, cond_false, List.map_cons, List.map_nil, List.set_cons_zero, List.set_cons_succ, List.set_nil, DL.cpow_109, DL.pow_109, DL.frz_set_lst, DL.frz_set_dic, Bool.not_true, Bool.not_false, DL.itemsOf_obj, DL.enumOf_obj, DL.all_still, okD_non, okD_bl, okD_int, okD_str, okD_lst, okD_tup, okD_dic, res_set_lst, Mem.set_same, Mem.set_set, lk_seats, lk_patience, lk_reading, lk_alone, lk_asking, lk_waiting, lk_rows, no_is_inside, no_is_waiting, no_look, no_come, no_leave, no_ask, no_ease, no_settled, no_begun, no_readers, no_writer, no_asker, no_line, no_passed, no_journal, dp_reading, dp_reading0, dp_reading1, dp_alone, dp_alone0, dp_asking, dp_asking0, dp_waiting, dp_rows, few_flds, eNames, isN_optS, res_optS, optS_some, optS_none, Option.isNone_none, Option.isNone_some, m_l_people, m_l_cell_at, Int.reduceLE, m_is_number, m_is_name, m_is_wish, m_can_begin, canBegin_read, canBegin_write, canBegin_wish, m_l_whole, isWhole])
/-! ### _law_kinds(_law_e): 0 _law_e, 1 _law_found, 2 _law_marks, 3 _law_k -/
def t_l_kinds_L1 (K : PySem.W.Frag) (A : Adr) (ea ec : Addr) : DSt :=
  (dIfS (dB (dOp oIx (dVar 2) (dVar 3))) (dExpr (dMet isLst oAppend (dVar 1) (dCons (dVar 3) dNil))) dNext)
def t_l_kinds_6 (K : PySem.W.Frag) (A : Adr) (ea ec : Addr) : DSt :=
  (dRet (dFrz (dVar 1)))
def t_l_kinds_5 (K : PySem.W.Frag) (A : Adr) (ea ec : Addr) : DSt :=
  (dSeq (dFor (dRange1 (dCons (dCall (on1 lenD) (dCons (dVar 2) dNil)) dNil)) (dgName 3) (t_l_kinds_L1 K A ea ec))
  (t_l_kinds_6 K A ea ec))
def t_l_kinds_4 (K : PySem.W.Frag) (A : Adr) (ea ec : Addr) : DSt :=
  (dSeq (dExpr (dMet isLst oAppend (dVar 2) (dCons (dCall (isED K ea ec) (dCons (dVar 0) (dCons (dC (.obj A.BadNumber)) dNil))) dNil)))
  (t_l_kinds_5 K A ea ec))
def t_l_kinds_3 (K : PySem.W.Frag) (A : Adr) (ea ec : Addr) : DSt :=
  (dSeq (dSet 2 (dOp oAddM (dVar 2) (dLst (dCons (dCall (isED K ea ec) (dCons (dVar 0) (dCons (dC (.obj A.Asked)) dNil))) (dCons (dCall (isED K ea ec) (dCons (dVar 0) (dCons (dC (.obj A.BadText)) dNil))) (dCons (dCall (isED K ea ec) (dCons (dVar 0) (dCons (dC (.obj A.BadJournal)) dNil))) dNil))))))
  (t_l_kinds_4 K A ea ec))
def t_l_kinds_2 (K : PySem.W.Frag) (A : Adr) (ea ec : Addr) : DSt :=
  (dSeq (dSet 2 (dOp oAddM (dVar 2) (dLst (dCons (dCall (isED K ea ec) (dCons (dVar 0) (dCons (dC (.obj A.Outside)) dNil))) (dCons (dCall (isED K ea ec) (dCons (dVar 0) (dCons (dC (.obj A.Inside)) dNil))) (dCons (dCall (isED K ea ec) (dCons (dVar 0) (dCons (dC (.obj A.Reads)) dNil))) (dCons (dCall (isED K ea ec) (dCons (dVar 0) (dCons (dC (.obj A.Writes)) dNil))) dNil)))))))
  (t_l_kinds_3 K A ea ec))
def t_l_kinds_1 (K : PySem.W.Frag) (A : Adr) (ea ec : Addr) : DSt :=
  (dSeq (dSet 2 (dLstM (dCons (dCall (isED K ea ec) (dCons (dVar 0) (dCons (dC (.obj A.BadName)) dNil))) (dCons (dCall (isED K ea ec) (dCons (dVar 0) (dCons (dC (.obj A.BadWish)) dNil))) (dCons (dCall (isED K ea ec) (dCons (dVar 0) (dCons (dC (.obj A.Known)) dNil))) (dCons (dCall (isED K ea ec) (dCons (dVar 0) (dCons (dC (.obj A.Stranger)) dNil))) dNil))))))
  (t_l_kinds_2 K A ea ec))
def t_l_kinds (K : PySem.W.Frag) (A : Adr) (ea ec : Addr) : DSt :=
  (dSeq (dSet 1 (dLstM dNil))
  (t_l_kinds_1 K A ea ec))
local macro_rules | `(tactic| walk_at "un") => `(tactic| simp only [t_l_kinds_6, t_l_kinds_5, t_l_kinds_4, t_l_kinds_3, t_l_kinds_2, t_l_kinds_1, t_l_kinds])
/-- the classes that the law asks for -/
def clsL (A : Adr) : List Addr := [A.BadName, A.BadWish, A.Known, A.Stranger, A.Outside, A.Inside, A.Reads, A.Writes, A.Asked, A.BadText, A.BadJournal, A.BadNumber]
structure KindOf (K : PySem.W.Frag) (A : Adr) (ec : Addr) (j : Nat) : Prop where
  c : ExcC K ec
  lt : j < 12
  k : ∀ i C, (clsL A)[i]? = some C → PySem.W.kitOne K (.ref ec) (.ref C) = some (decide (i = j))
  v : PySem.W.kitOne K (.ref ec) (.type "ValueError") = some true
def m_l_kinds (K : PySem.W.Frag) (A : Adr) (ea ec : Addr) : FDm := fun ds M Q _ => ∃ j : Nat, ds = [.obj ea] ∧ KindOf K A ec j ∧ Q (.lst [.int (j : Int)]) M
theorem len_l_kinds (K : PySem.W.Frag) (A : Adr) (ea ec : Addr) : ∀ ds M Q X, m_l_kinds K A ea ec ds M Q X → ds.length = 1 := fun ds M Q X ⟨_, h, _⟩ => by subst h; rfl
theorem read_l_kinds (K : PySem.W.Frag) (A : Adr) (ea ec : Addr) : ∀ ds M Q X, m_l_kinds K A ea ec ds M Q X → t_l_kinds K A ea ec (bodyE Q X) (startD 4 ds) M := by
  rintro ds M Q X ⟨j, rfl, hk, h⟩
  unfold t_l_kinds
  walk_at "dl"
  intro p1 hp1
  unfold t_l_kinds_1
  walk_at "dl"
  have ask : ∀ (i : Nat) (C : Addr) (M' : Mem) (Q' : QD), (clsL A)[i]? = some C → Q' (.bl (decide (i = j))) M' → isED K ea ec [.obj ea, .obj C] M' Q' := fun i C M' Q' hC q => by
    refine ⟨rfl, hk.c, ?_⟩
    rw [kitV_obj, hk.k i C hC]
    exact q
  refine ask 0 _ _ _ rfl (ask 1 _ _ _ rfl (ask 2 _ _ _ rfl (ask 3 _ _ _ rfl fun p2 hp2 => ?_)))
  unfold t_l_kinds_2
  walk_at "dl"
  refine ask 4 _ _ _ rfl (ask 5 _ _ _ rfl (ask 6 _ _ _ rfl (ask 7 _ _ _ rfl ?_)))
  rw [res_obj Mem.set_same]
  walk_at "dl"
  refine ⟨by rw [sizeLine_eq]; show 4 + 4 ≤ _; omega, fun p3 hp3 => ?_⟩
  have n31 : p3 ≠ p1 := fun e => by
    rw [e] at hp3
    by_cases e2 : p1 = p2
    · rw [e2, Mem.set_same] at hp3; cases hp3
    · rw [Mem.set_ne e2, Mem.set_same] at hp3; cases hp3
  have f1 : ((M.set p1 (.lst [])).set p2 (.lst [D.bl (decide (0 = j)), D.bl (decide (1 = j)), D.bl (decide (2 = j)), D.bl (decide (3 = j))])) p1 = some (.lst []) := by
    have n21 : p1 ≠ p2 := fun e => by rw [← e, Mem.set_same] at hp2; cases hp2
    rw [Mem.set_ne n21, Mem.set_same]
  have s2 : M.Sub ((M.set p1 (.lst [])).set p2 (.lst [D.bl (decide (0 = j)), D.bl (decide (1 = j)), D.bl (decide (2 = j)), D.bl (decide (3 = j))])) := fun b o e => Mem.sub_set hp2 b o (Mem.sub_set hp1 b o e)
  generalize (M.set p1 (.lst [])).set p2 (.lst [D.bl (decide (0 = j)), D.bl (decide (1 = j)), D.bl (decide (2 = j)), D.bl (decide (3 = j))]) = M2 at hp3 f1 s2 ⊢
  unfold t_l_kinds_3
  walk_at "dl"
  refine ask 8 _ _ _ rfl (ask 9 _ _ _ rfl (ask 10 _ _ _ rfl ?_))
  have f3 : (M2.set p3 (.lst ([D.bl (decide (0 = j)), D.bl (decide (1 = j)), D.bl (decide (2 = j)), D.bl (decide (3 = j))] ++ [D.bl (decide (4 = j)), D.bl (decide (5 = j)), D.bl (decide (6 = j)), D.bl (decide (7 = j))]))) p3 = some (.lst ([D.bl (decide (0 = j)), D.bl (decide (1 = j)), D.bl (decide (2 = j)), D.bl (decide (3 = j))] ++ [D.bl (decide (4 = j)), D.bl (decide (5 = j)), D.bl (decide (6 = j)), D.bl (decide (7 = j))])) := Mem.set_same
  have f31 : (M2.set p3 (.lst ([D.bl (decide (0 = j)), D.bl (decide (1 = j)), D.bl (decide (2 = j)), D.bl (decide (3 = j))] ++ [D.bl (decide (4 = j)), D.bl (decide (5 = j)), D.bl (decide (6 = j)), D.bl (decide (7 = j))]))) p1 = some (.lst []) := by rw [Mem.set_ne n31.symm]; exact f1
  have s3 : M.Sub (M2.set p3 (.lst ([D.bl (decide (0 = j)), D.bl (decide (1 = j)), D.bl (decide (2 = j)), D.bl (decide (3 = j))] ++ [D.bl (decide (4 = j)), D.bl (decide (5 = j)), D.bl (decide (6 = j)), D.bl (decide (7 = j))]))) := fun b o e => Mem.sub_set hp3 b o (s2 b o e)
  generalize M2.set p3 (.lst ([D.bl (decide (0 = j)), D.bl (decide (1 = j)), D.bl (decide (2 = j)), D.bl (decide (3 = j))] ++ [D.bl (decide (4 = j)), D.bl (decide (5 = j)), D.bl (decide (6 = j)), D.bl (decide (7 = j))])) = M3 at f3 f31 s3 ⊢
  rw [res_obj f3]
  walk_at "dl"
  refine ⟨by rw [sizeLine_eq]; show 8 + 3 ≤ _; omega, fun p4 hp4 => ?_⟩
  have n41 : p4 ≠ p1 := fun e => by rw [e, f31] at hp4; cases hp4
  have f41 : ∀ o, (M3.set p4 o) p1 = some (.lst []) := fun o => by rw [Mem.set_ne n41.symm]; exact f31
  unfold t_l_kinds_4
  walk_at "dl"
  refine ask 11 _ _ _ rfl ?_
  rw [Mem.set_same]
  refine ⟨by rw [sizeLine_eq]; show 11 < _; omega, ?_⟩
  rw [Mem.set_set]
  have e12 : ((([D.bl (decide (0 = j)), D.bl (decide (1 = j)), D.bl (decide (2 = j)), D.bl (decide (3 = j))] ++ [D.bl (decide (4 = j)), D.bl (decide (5 = j)), D.bl (decide (6 = j)), D.bl (decide (7 = j))]) ++ [D.bl (decide (8 = j)), D.bl (decide (9 = j)), D.bl (decide (10 = j))]) ++ [D.bl (decide (11 = j))] : List D) = (List.range 12).map fun i => D.bl (decide (i = j)) := rfl
  rw [e12]
  have g4 : (M3.set p4 (.lst ((List.range 12).map fun i => D.bl (decide (i = j))))) p4 = some (.lst ((List.range 12).map fun i => D.bl (decide (i = j)))) := Mem.set_same
  have g1 := f41 (.lst ((List.range 12).map fun i => D.bl (decide (i = j))))
  have s4 : M.Sub (M3.set p4 (.lst ((List.range 12).map fun i => D.bl (decide (i = j))))) := fun b o e => Mem.sub_set hp4 b o (s3 b o e)
  generalize M3.set p4 (.lst ((List.range 12).map fun i => D.bl (decide (i = j)))) = M4 at g4 g1 s4 ⊢
  unfold t_l_kinds_5
  walk_at "dl"
  rw [res_obj g4]
  walk_at "dl"
  have l12 : ((List.range 12).map fun i => D.bl (decide (i = j))).length = 12 := by rw [List.length_map, List.length_range]
  rw [l12]
  refine ⟨by decide, by decide, ?_⟩
  refine ⟨fun k δ M' => M.Sub M' ∧ M' p4 = some (.lst ((List.range 12).map fun i => D.bl (decide (i = j)))) ∧ M' p1 = some (.lst (if j < k then [.int (j : Int)] else [])) ∧ ∃ o : Option D, δ = [some (.obj ea), some (.obj p1), some (.obj p4), o], ⟨s4, g4, g1, _, rfl⟩, ?_, ?_⟩
  · rintro k x δ M' hx ⟨ms, m4, m1, o, rfl⟩
    refine ⟨trivial, ?_⟩
    obtain ⟨hk2, rfl⟩ := rangeD_get hx
    have hk12 : k < 12 := hk2
    have en : nth ((List.range 12).map fun i => D.bl (decide (i = j))) (k : Int) = some (.bl (decide (k = j))) := by
      rw [nth_nat, List.getElem?_map, List.getElem?_range hk12]
      rfl
    unfold t_l_kinds_L1
    walk_at "dl"
    rw [res_obj m4]
    walk_at "dl"
    rw [en, el_some]
    refine cond_dec (fun e => ?_) fun e => ?_
    · subst e
      rw [res_obj m1]
      walk_at "dl"
      rw [m1]
      walk_at "dl"
      rw [if_neg (Nat.lt_irrefl _)]
      refine ⟨by rw [sizeLine_eq]; show 0 < _; omega, fun b o e => ?_, ?_, ?_, _, rfl⟩
      · have nb : b ≠ p1 := fun z => by rw [z, hp1] at e; cases e
        rw [Mem.set_ne nb]
        exact ms b o e
      · rw [Mem.set_ne n41]; exact m4
      · rw [if_pos (Nat.lt_succ_self _)]; rfl
    · refine ⟨ms, m4, ?_, _, rfl⟩
      rw [m1]
      by_cases h1 : j < k
      · rw [if_pos h1, if_pos (by omega)]
      · rw [if_neg h1, if_neg (by omega)]
  · rintro δ M' ⟨ms, m4, m1, o, rfl⟩
    refine ⟨trivial, ?_⟩
    rw [rangeD_len] at m1
    have m1 : M' p1 = some (.lst (if j < 12 then [.int (j : Int)] else [])) := m1
    rw [if_pos hk.lt] at m1
    unfold t_l_kinds_6
    walk_at "dl"
    rw [frz_obj, res_obj m1, frzR_lst]
    exact ⟨M, fun b o e => by
      have nb : b ≠ p1 := fun z => by rw [z, hp1] at e; cases e
      rw [Mem.del_ne nb]
      exact ms b o e, h⟩

local macro_rules | `(tactic| walk_at "dl") => `(tactic| try simp -implicitDefEqProofs only [DL.dNext, DL.dSeq, DL.dExpr, DL.dRet, DL.dIfS, DL.dSet, DL.dCont, DL.dRaise, DL.dFor, DL.dgName, DL.dgPair, DL.dTry, DL.dFn, DL.dMth, DL.dMk, DL.dFld, DL.dFldS, DL.dPut, DL.dVar, DL.slot, DL.dC, DL.dOp, DL.dUn, DL.oSub, DL.oMul, DL.oDiv, DL.oMod, DL.oPow, DL.oLt, DL.oLe, DL.oGt, DL.oGe, DL.oEq, DL.oNe, DL.oIn, DL.oNotIn, DL.dB, DL.dIsN, DL.dChain, DL.dAnd, DL.dOr, DL.dNot, DL.dAndV, DL.dOrV, DL.dNotV, DL.dIf, DL.dNil, DL.dCons, DL.few, DL.dLst, DL.dTup, DL.dLstM, DL.dFrz, DL.dPairs, DL.dDisp, DL.dDic0, DL.dSl, DL.dNoPart, DL.dCall, DL.dMet0L, DL.dMet, DL.dItems, DL.dRange1, DL.dEnum, DL.dLcM, DL.dwipe, DL.startD, DL.dNever, DL.el_some, DL.elL_lst, DL.elD_dic, DL.elI_ins, DL.res_non, DL.res_bl, DL.res_int, DL.res_str, DL.res_lst, DL.res_tupE, DL.res_dic, DL.res_scr, DL.res_ty, DL.oAdd_eq, DL.addR_int, DL.addR_str, DL.addR_lst, DL.addR_tup, DL.oAddM_eq, DL.addMR_lst, DL.oInt_eq, DL.intR_int, DL.oInt0_eq, DL.int0R_int, DL.oNeg_eq, DL.negR_int, DL.oEqN_eq, DL.eqR_some, DL.eqR_none, DL.eqS_non_non, DL.eqS_non_int, DL.eqS_non_bl, DL.eqS_non_str, DL.eqS_non_lst, DL.eqS_non_tup, DL.eqS_int_non, DL.eqS_int_int, DL.eqS_int_bl, DL.eqS_int_str, DL.eqS_int_lst, DL.eqS_int_tup, DL.eqS_bl_non, DL.eqS_bl_int, DL.eqS_bl_bl, DL.eqS_bl_str, DL.eqS_bl_lst, DL.eqS_bl_tup, DL.eqS_str_non, DL.eqS_str_int, DL.eqS_str_bl, DL.eqS_str_str, DL.eqS_str_lst, DL.eqS_str_tup, DL.eqS_lst_non, DL.eqS_lst_int, DL.eqS_lst_bl, DL.eqS_lst_str, DL.eqS_lst_lst, DL.eqS_lst_tup, DL.eqS_tup_non, DL.eqS_tup_int, DL.eqS_tup_bl, DL.eqS_tup_str, DL.eqS_tup_lst, DL.eqS_tup_tup, DL.eqS_obj_non, DL.eqS_non_obj, DL.eqS_obj_int, DL.eqS_int_obj, DL.eqS_obj_bl, DL.eqS_bl_obj, DL.eqS_obj_str, DL.eqS_str_obj, DL.eqS_obj_lst, DL.eqS_lst_obj, DL.eqS_obj_tup, DL.eqS_tup_obj, DL.eqS_obj_obj, DL.oInN_eq, DL.inR_lst, DL.inR_tup, DL.inR_str, DL.flatD_non, DL.flatD_bl, DL.flatD_int, DL.flatD_str, DL.asB_bl, DL.isN_non, DL.isN_bl, DL.isN_int, DL.isN_str, DL.isN_lst, DL.isN_tup, DL.isN_dic, DL.isN_scr, DL.isN_ty, DL.isN_obj, DL.frz_non, DL.frz_bl, DL.frz_int, DL.frz_str, DL.frz_lst, DL.frz_tup, DL.frz_dic, DL.frz_scr, DL.frz_ty, DL.oIx_eq, DL.ixR_lst, DL.ixR_tup, DL.ixR_scr, DL.ixR_str, DL.ixR_dic, DL.nth_0, DL.nth_1, DL.nth_2, DL.nth_3, DL.oSl_eq, DL.slR_lst, DL.slR_tup, DL.slR_str, DL.dPart_eq, DL.partR_int, DL.on1_cons, DL.on2_cons, DL.lenD_lst, DL.lenD_tup, DL.lenD_scr, DL.lenD_str, DL.intD_int, DL.intD_bl, DL.strD_int, DL.int2_int, DL.listM_lst, DL.listF_lst, DL.listM_tup, DL.listF_tup, DL.dictM_dic, DL.isiD_ty, DL.oAppend_obj, DL.oInsert_obj, DL.oPop_obj, DL.oPopAt_obj, DL.isLst_eq, DL.isLstR_lst, DL.isStr_str, DL.oSplit_str, DL.oJoin_str, DL.itemsOf_lst, DL.itemsOf_tup, DL.itemsOf_str, DL.rng1_int, DL.enumOf_lst, DL.two_tup, DL.insIs_obj, DL.getFld_obj, DL.setFld_obj, DL.putDic_obj, DL.isB_str_non, DL.isB_str_bl, DL.isB_str_int, DL.isB_str_str, DL.isB_str_lst, DL.isB_str_tup, DL.isB_str_dic, DL.isB_int_non, DL.isB_int_bl, DL.isB_int_int, DL.isB_int_str, DL.isB_int_lst, DL.isB_int_tup, DL.isB_int_dic, DL.isB_bool_non, DL.isB_bool_bl, DL.isB_bool_int, DL.isB_bool_str, DL.isB_bool_lst, DL.isB_bool_tup, DL.isB_bool_dic, DL.isB_list_non, DL.isB_list_bl, DL.isB_list_int, DL.isB_list_str, DL.isB_list_lst, DL.isB_list_tup, DL.isB_list_dic, DL.isB_tuple_non, DL.isB_tuple_bl, DL.isB_tuple_int, DL.isB_tuple_str, DL.isB_tuple_lst, DL.isB_tuple_tup, DL.isB_tuple_dic, Bool.cond_true, Bool.cond_false, L2.CDiv, Int.reduceLT, Int.reduceLE, true_and, and_true, cond_true, cond_false, List.map_cons, List.map_nil, List.set_cons_zero, List.set_cons_succ, List.set_nil, DL.cpow_109, DL.pow_109, DL.frz_set_lst, DL.frz_set_dic, Bool.not_true, Bool.not_false, DL.itemsOf_obj, DL.enumOf_obj, DL.all_still, okD_non, okD_bl, okD_int, okD_str, okD_lst, okD_tup, okD_dic, res_set_lst, Mem.set_same, Mem.set_set, lk_seats, lk_patience, lk_reading, lk_alone, lk_asking, lk_waiting, lk_rows, no_is_inside, no_is_waiting, no_look, no_come, no_leave, no_ask, no_ease, no_settled, no_begun, no_readers, no_writer, no_asker, no_line, no_passed, no_journal, dp_reading, dp_reading0, dp_reading1, dp_alone, dp_alone0, dp_asking, dp_asking0, dp_waiting, dp_rows, few_flds, eNames, isN_optS, res_optS, optS_some, optS_none, Option.isNone_none, Option.isNone_some, m_l_people, m_l_cell_at, Int.reduceLE, m_is_number, m_is_name, m_is_wish, m_can_begin, canBegin_read, canBegin_write, canBegin_wish, m_l_whole, isWhole])
/-! ### _law_tried(_law_room_here, _law_deed, _law_name, _law_wish): 0 _law_room_here, 1 _law_deed, 2 _law_name, 3 _law_wish, 4 _law_e -/
def t_l_tried_1 (K : PySem.W.Frag) (A : Adr) : DSt :=
  (dRet (dLst (dCons (dUn oNeg (dC (.int 1))) dNil)))
def t_l_tried (K : PySem.W.Frag) (A : Adr) : DSt :=
  (dSeq (dTryAs K (.ref A.RoomError) 4 (dIfS (dB (dOp oEq (dVar 1) (dC (.int 0)))) (dExpr (dFrz (dMth A.Room "come" (m_room_come A) (dVar 0) (dCons (dVar 2) (dCons (dVar 3) dNil))))) (dIfS (dB (dOp oEq (dVar 1) (dC (.int 1)))) (dExpr (dFrz (dMth A.Room "leave" (m_room_leave A) (dVar 0) (dCons (dVar 2) dNil)))) (dIfS (dB (dOp oEq (dVar 1) (dC (.int 2)))) (dExpr (dFrz (dMth A.Room "ask" (m_room_ask A) (dVar 0) (dCons (dVar 2) dNil)))) (dIfS (dB (dOp oEq (dVar 1) (dC (.int 3)))) (dExpr (dFrz (dMth A.Room "ease" (m_room_ease A) (dVar 0) (dCons (dVar 2) dNil)))) (dRet (dLst (dCons (dOp oSub (dUn oNeg (dC (.int 1))) (dCall (on1 intD) (dCons (dOrV (dNotV (dFn m_l_whole (dCons (dMth A.Room "passed" (m_room_passed A) (dVar 0) (dCons (dVar 2) dNil)) dNil))) (dOp oNe (dMth A.Room "passed" (m_room_passed A) (dVar 0) (dCons (dVar 2) dNil)) (dC (.int 0)))) dNil))) dNil))))))) (fun ea ec => (dSeq (dIfS (dNot (dB (dCall (isED K ea ec) (dCons (dVar 4) (dCons (dC (.ty "ValueError")) dNil))))) (dRet (dLst (dCons (dUn oNeg (dC (.int 3))) dNil))) dNext)
  (dRet (dFn (m_l_kinds K A ea ec) (dCons (dVar 4) dNil))))))
  (t_l_tried_1 K A))
local macro_rules | `(tactic| walk_at "un") => `(tactic| simp only [t_l_tried_1, t_l_tried])
-- NEEDS_TXT K A (fun c => match c with | .name => T.e_BadName_RoomError | .wish => T.e_BadWish_RoomError | .known => T.e_Known_RoomError | .stranger => T.e_Stranger_RoomError | .outside => T.e_Outside_RoomError | .reads => T.e_Reads_RoomError | .writes => T.e_Writes_RoomError | .asked => T.e_Asked_RoomError) T.e_Inside_RoomError (kinds_T T) (kind_Inside T)
def Rf.idx : Rf → Nat
  | .name => 0
  | .wish => 1
  | .known => 2
  | .stranger => 3
  | .outside => 4
  | .reads => 6
  | .writes => 7
  | .asked => 8
def oV : Out → Int
  | .no c => (c.idx : Int)
  | .did _ _ => -1
def pV (r : Rm) (n : D) : Int := if hereB r n = false then 3 else match n with
  | .str z => if insideB r z = true then 5 else if passedI r z = 0 then -1 else -2
  | _ => 3
def tV (r : Rm) (deed : Nat) (n w : D) : Int := match deed with
  | 0 => oV (comeO r n w)
  | 1 => oV (leaveO r n)
  | 2 => oV (askO r n)
  | 3 => oV (easeO r n)
  | _ => pV r n
def m_l_tried (A : Adr) : FDm := fun ds M Q _ => ∃ (a : Addr) (r : Rm) (deed : Nat) (n w : D), ds = [.obj a, .int (deed : Int), n, w] ∧ deed < 5 ∧ At A M a r ∧ okD n = true ∧ okD w = true ∧ wgt r ≤ 800000 ∧
  (∀ M', (tV r deed n w ≠ -1 → M' = M) → Q (.lst [.int (tV r deed n w)]) M')
theorem len_l_tried (A : Adr) : ∀ ds M Q X, m_l_tried A ds M Q X → ds.length = 4 := fun ds M Q X ⟨_, _, _, _, _, h, _⟩ => by subst h; rfl
theorem read_l_tried (K : PySem.W.Frag) (A : Adr) (he : ∀ c : Rf, PySem.W.exmOne K (.ref (c.at A)) (.ref A.RoomError) = some true) (hi : PySem.W.exmOne K (.ref A.Inside) (.ref A.RoomError) = some true) (kf : ∀ c : Rf, KindOf K A (c.at A) c.idx) (ki : KindOf K A A.Inside 5) : ∀ ds M Q X, m_l_tried A ds M Q X → t_l_tried K A (bodyE Q X) (startD 5 ds) M := by
  rintro ds M Q X ⟨a, r, deed, n, w, rfl, hd, ha, hn, hw, hs, h⟩
  have hM : M a = some (.ins A.Room (flds r)) := ha
  have sui : ∀ (ea ec : Addr) (j : Nat), KindOf K A ec j → Q (.lst [.int (j : Int)]) M → isED K ea ec [.obj ea, .ty "ValueError"] M (fun d M1 => asB d M1 fun b M1 => cond (!b) (retD Q (.lst [.int (-3)]) M1) (m_l_kinds K A ea ec [.obj ea] M1 (retD Q) fun _ _ => False)) := fun ea ec j hk q => by
    refine ⟨rfl, hk.c, ?_⟩
    rw [kitV_ty, hk.v, el_some]
    walk_at "dl"
    exact ⟨j, rfl, hk, retD_of q⟩
  have don : ∀ (o : Out) (d : Int) (l : List (Str × Bool)) (r' : Rm), o = .did l r' → (∀ M', (oV o ≠ -1 → M' = M) → Q (.lst [.int (oV o)]) M') → ∀ v, M v = none → frz (.obj v) ((M.set a (.ins A.Room (flds r'))).set v (.lst (ePs l))) fun x M1 => t_l_tried_1 K A (bodyE Q X) [some (.obj a), some (.int d), some n, some w, none] M1 := fun o d l r' eo h v hv => by
    subst eo
    have hv2 : (M.set a (.ins A.Room (flds r'))) v = none := by
      rw [Mem.set_ne (fun e => by rw [e, hM] at hv; cases hv)]
      exact hv
    rw [frz_set_lst, Mem.del_set hv2]
    unfold t_l_tried_1
    walk_at "dl"
    exact retD_of (h _ fun e => absurd rfl e)
  match deed, hd with
  | 0, _ =>
    show t_l_tried K A _ [some (.obj a), some (.int 0), some n, some w, none] M
    unfold t_l_tried dTryAs
    walk_at "dl"
    rw [hM]
    walk_at "dl"
    refine ⟨a, r, n, w, rfl, ha, hn, hw, hs, ?_⟩
    have h : ∀ M', (oV (comeO r n w) ≠ -1 → M' = M) → Q (.lst [.int (oV (comeO r n w))]) M' := h
    cases ho : comeO r n w with
    | no c =>
      rw [ho] at h
      exact ⟨he c, fun ea hea => sui ea _ _ (kf c) (h M fun _ => rfl)⟩
    | did l r' => exact don _ 0 l r' ho h
  | 1, _ =>
    show t_l_tried K A _ [some (.obj a), some (.int 1), some n, some w, none] M
    unfold t_l_tried dTryAs
    walk_at "dl"
    rw [hM]
    walk_at "dl"
    refine ⟨a, r, n, rfl, ha, hn, hs, ?_⟩
    have h : ∀ M', (oV (leaveO r n) ≠ -1 → M' = M) → Q (.lst [.int (oV (leaveO r n))]) M' := h
    cases ho : leaveO r n with
    | no c =>
      rw [ho] at h
      exact ⟨he c, fun ea hea => sui ea _ _ (kf c) (h M fun _ => rfl)⟩
    | did l r' => exact don _ 1 l r' ho h
  | 2, _ =>
    show t_l_tried K A _ [some (.obj a), some (.int 2), some n, some w, none] M
    unfold t_l_tried dTryAs
    walk_at "dl"
    rw [hM]
    walk_at "dl"
    refine ⟨a, r, n, rfl, ha, hn, hs, ?_⟩
    have h : ∀ M', (oV (askO r n) ≠ -1 → M' = M) → Q (.lst [.int (oV (askO r n))]) M' := h
    cases ho : askO r n with
    | no c =>
      rw [ho] at h
      exact ⟨he c, fun ea hea => sui ea _ _ (kf c) (h M fun _ => rfl)⟩
    | did l r' => exact don _ 2 l r' ho h
  | 3, _ =>
    show t_l_tried K A _ [some (.obj a), some (.int 3), some n, some w, none] M
    unfold t_l_tried dTryAs
    walk_at "dl"
    rw [hM]
    walk_at "dl"
    refine ⟨a, r, n, rfl, ha, hn, hs, ?_⟩
    have h : ∀ M', (oV (easeO r n) ≠ -1 → M' = M) → Q (.lst [.int (oV (easeO r n))]) M' := h
    cases ho : easeO r n with
    | no c =>
      rw [ho] at h
      exact ⟨he c, fun ea hea => sui ea _ _ (kf c) (h M fun _ => rfl)⟩
    | did l r' => exact don _ 3 l r' ho h
  | 4, _ =>
    show t_l_tried K A _ [some (.obj a), some (.int 4), some n, some w, none] M
    have h : ∀ M', (pV r n ≠ -1 → M' = M) → Q (.lst [.int (pV r n)]) M' := h
    have h := h M fun _ => rfl
    unfold t_l_tried dTryAs
    walk_at "dl"
    rw [hM]
    walk_at "dl"
    unfold pV at h
    refine ⟨a, r, n, rfl, ha, hn, fun e => ?_, fun z ez e => ⟨fun e2 => ?_, fun e2 => ?_⟩⟩
    · rw [if_pos e] at h
      exact ⟨he .stranger, fun ea hea => sui ea _ 3 (kf .stranger) h⟩
    · subst ez
      rw [if_neg (bt_ne e)] at h
      simp only at h
      rw [if_pos e2] at h
      exact ⟨hi, fun ea hea => sui ea _ 5 ki h⟩
    · subst ez
      rw [if_neg (bt_ne e)] at h
      simp only at h
      rw [if_neg (bf_ne e2)] at h
      refine ⟨rfl, ?_⟩
      show _ ∧ _
      rw [hM]
      walk_at "dl"
      refine ⟨a, r, .str z, rfl, ha, hn, (fun e3 => by rw [e] at e3; cases e3), fun z' ez' _ => ?_⟩
      cases ez'
      refine ⟨(fun e3 => by rw [e2] at e3; cases e3), fun _ => ?_⟩
      walk_at "dl"
      by_cases e0 : passedI r z = 0
      · rw [if_pos e0] at h
        rw [decide_eq_true e0]
        exact retD_of h
      · rw [if_neg e0] at h
        rw [decide_eq_false e0]
        exact retD_of h

/-! ### law(_law_script): 0 _law_script, 1 _law_people_here, 2 _law_way, 3 _law_who, 4 _law_name, 5 _law_good, 6 _law_wish, 7 _law_deed, 8 _law_room_here, 9 _law_ahead, 10 _law_due_here -/
def t_law_L1_4 (A : Adr) : DSt :=
  (dIfS (dAnd (dB (dOp oNe (dVar 10) (dUn oNeg (dC (.int 1))))) (dB (dOp oNe (dFn (m_l_state A) (dCons (dVar 8) dNil)) (dVar 9)))) (dRet (dC (.bl false))) dNext)
def t_law_L1_3 (A : Adr) : DSt :=
  (dSeq (dIfS (dB (dOp oNe (dFn (m_l_tried A) (dCons (dVar 8) (dCons (dVar 7) (dCons (dVar 4) (dCons (dVar 6) dNil))))) (dLst (dCons (dVar 10) dNil)))) (dRet (dC (.bl false))) dNext)
  (t_law_L1_4 A))
def t_law_L1_2 (A : Adr) : DSt :=
  (dSeq (dSet 10 (dFn m_l_due (dCons (dVar 2) (dCons (dVar 7) (dCons (dVar 3) (dCons (dVar 5) (dCons (dOp oEq (dOp oMod (dOp oDiv (dFn m_l_cell_at (dCons (dVar 0) (dCons (dC (.int 4)) dNil))) (dC (.int 2))) (dC (.int 2))) (dC (.int 0))) dNil)))))))
  (t_law_L1_3 A))
def t_law_L1_1 (A : Adr) : DSt :=
  (dSeq (dSet 9 (dFn (m_l_state A) (dCons (dVar 8) dNil)))
  (t_law_L1_2 A))
def t_law_L1 (A : Adr) : DSt :=
  (dSeq (dSet 8 (dFn (m_l_room A) (dCons (dVar 2) (dCons (dVar 1) dNil))))
  (t_law_L1_1 A))
def t_law_9 (A : Adr) : DSt :=
  (dRet (dC (.bl true)))
def t_law_8 (A : Adr) : DSt :=
  (dSeq (dFor (dRange1 (dCons (dC (.int 5)) dNil)) (dgName 7) (t_law_L1 A))
  (t_law_9 A))
def t_law_7 (A : Adr) : DSt :=
  (dSeq (dIfS (dB (dOp oEq (dOp oMod (dOp oDiv (dFn m_l_cell_at (dCons (dVar 0) (dCons (dC (.int 4)) dNil))) (dC (.int 2))) (dC (.int 2))) (dC (.int 1)))) (dSet 6 (dFn m_l_no_wish (dCons (dOp oDiv (dFn m_l_cell_at (dCons (dVar 0) (dCons (dC (.int 4)) dNil))) (dC (.int 4))) dNil))) dNext)
  (t_law_8 A))
def t_law_6 (A : Adr) : DSt :=
  (dSeq (dSet 6 (dOp oIx (dLst (dCons (dC (.str "read")) (dCons (dC (.str "write")) dNil))) (dOp oMod (dFn m_l_cell_at (dCons (dVar 0) (dCons (dC (.int 4)) dNil))) (dC (.int 2)))))
  (t_law_7 A))
def t_law_5 (A : Adr) : DSt :=
  (dSeq (dIfS (dNot (dB (dVar 5))) (dSet 4 (dFn m_l_no_name (dCons (dOp oDiv (dFn m_l_cell_at (dCons (dVar 0) (dCons (dC (.int 3)) dNil))) (dC (.int 3))) (dCons (dOp oIx (dVar 1) (dC (.int 0))) dNil)))) dNext)
  (t_law_6 A))
def t_law_4 (A : Adr) : DSt :=
  (dSeq (dSet 5 (dOp oNe (dOp oMod (dFn m_l_cell_at (dCons (dVar 0) (dCons (dC (.int 3)) dNil))) (dC (.int 3))) (dC (.int 1))))
  (t_law_5 A))
def t_law_3 (A : Adr) : DSt :=
  (dSeq (dSet 4 (dOp oIx (dVar 1) (dVar 3)))
  (t_law_4 A))
def t_law_2 (A : Adr) : DSt :=
  (dSeq (dSet 3 (dOp oMod (dFn m_l_cell_at (dCons (dVar 0) (dCons (dC (.int 2)) dNil))) (dC (.int 4))))
  (t_law_3 A))
def t_law_1 (A : Adr) : DSt :=
  (dSeq (dSet 2 (dOp oMod (dFn m_l_cell_at (dCons (dVar 0) (dCons (dC (.int 1)) dNil))) (dC (.int 7))))
  (t_law_2 A))
def t_law (A : Adr) : DSt :=
  (dSeq (dSet 1 (dFn m_l_people (dCons (dFn m_l_cell_at (dCons (dVar 0) (dCons (dC (.int 0)) dNil))) (dCons (dC (.int 4)) dNil))))
  (t_law_1 A))
local macro_rules | `(tactic| walk_at "un") => `(tactic| simp only [t_law_9, t_law_8, t_law_7, t_law_6, t_law_5, t_law_4, t_law_3, t_law_2, t_law_1, t_law])
abbrev m_law : FDm := mLaw
theorem len_law : ∀ ds M Q X, m_law ds M Q X → ds.length = 1 := fun ds M Q X ⟨ns, h, _⟩ => by subst h; rfl
/-- the names by place -/
def zAt (z0 z1 z2 z3 : Str) : Nat → Str
  | 0 => z0
  | 1 => z1
  | 2 => z2
  | _ => z3
theorem at_ways {z0 z1 z2 z3 : Str} (n01 : z0 ≠ z1) (n02 : z0 ≠ z2) (n03 : z0 ≠ z3) (n12 : z1 ≠ z2) (n13 : z1 ≠ z3) (n23 : z2 ≠ z3) : ∀ (way who : Nat), way < 7 → who < 4 →
    insideB (rowsW way z0 z1 z2) (zAt z0 z1 z2 z3 who) = inI (who : Int) (insL way) ∧ waitsB (rowsW way z0 z1 z2) (zAt z0 z1 z2 z3 who) = inI (who : Int) (waL way) := by
  intro way who hw hz
  match way, hw with
  | 0, _ | 1, _ | 2, _ | 3, _ | 4, _ | 5, _ | 6, _ =>
    match who, hz with
    | 0, _ | 1, _ | 2, _ | 3, _ => simp [insideB, waitsB, rowsW, zAt, inI, insL, waL, n01, n02, n03, n12, n13, n23, n01.symm, n02.symm, n03.symm, n12.symm, n13.symm, n23.symm]
theorem some_ways (way : Nat) (z0 z1 z2 : Str) (hw : way < 7) : (rowsW way z0 z1 z2).alone.isSome = (decide (way = 2) || decide (way = 4)) ∧ (rowsW way z0 z1 z2).asking.isSome = decide (4 < way) ∧ ∀ w ∈ (rowsW way z0 z1 z2).waiting, w.n = 0 := by
  match way, hw with
  | 0, _ | 1, _ | 2, _ | 3, _ | 4, _ | 5, _ | 6, _ => exact ⟨rfl, rfl, by simp [rowsW]⟩
theorem passed0 {r : Rm} (h : ∀ w ∈ r.waiting, w.n = 0) (z : Str) : passedI r z = 0 := by
  unfold passedI
  have : ∀ l : List Wt, (∀ w ∈ l, w.n = 0) → ((l.filter fun w => decide (w.name = z)).map (·.n)).sum = 0 := by
    intro l
    induction l with
    | nil => intro _; rfl
    | cons x l ih =>
      intro h
      have := ih fun w hw => h w (List.mem_cons_of_mem _ hw)
      by_cases e : x.name = z
      · rw [List.filter_cons_of_pos (by simpa using e), List.map_cons, List.sum_cons, this, h x List.mem_cons_self]; rfl
      · rw [List.filter_cons_of_neg (by simpa using e)]; exact this
  exact this _ h
/-- what is due is what comes -/
theorem due_comes {z0 z1 z2 z3 : Str} (n01 : z0 ≠ z1) (n02 : z0 ≠ z2) (n03 : z0 ≠ z3) (n12 : z1 ≠ z2) (n13 : z1 ≠ z3) (n23 : z2 ≠ z3) (hz : ∀ z ∈ [z0, z1, z2, z3], nameOk z = true) {way deed who : Nat} (hw : way < 7) (hd : deed < 5) (ho : who < 4) {good wished : Bool} {n w : D}
    (hg : good = true → n = .str (zAt z0 z1 z2 z3 who)) (hb : good = false → isName n = false) (hs : isWish w = wished) : tV (rowsW way z0 z1 z2) deed n w = dueF way deed (who : Int) good wished := by
  obtain ⟨a1, a2⟩ := at_ways n01 n02 n03 n12 n13 n23 way who hw ho
  obtain ⟨s1, s2, s3⟩ := some_ways way z0 z1 z2 hw
  generalize hr : rowsW way z0 z1 z2 = r at a1 a2 s1 s2 s3 ⊢
  have iapp : inI (who : Int) (insL way ++ waL way) = (inI (who : Int) (insL way) || inI (who : Int) (waL way)) := by unfold inI; rw [List.any_append]
  cases good with
  | false =>
    have hb := hb rfl
    have hh : hereB r n = false := by
      cases n with
      | str z =>
        have hb : nameOk z = false := hb
        show (nameOk z && _) = false
        rw [hb]; rfl
      | _ => rfl
    match deed, hd with
    | 0, _ =>
      show oV (comeO r n w) = _
      unfold comeO
      rw [if_pos hb]
      rfl
    | 1, _ => show oV (leaveO r n) = _; unfold leaveO; rw [if_pos hh]; rfl
    | 2, _ => show oV (askO r n) = _; unfold askO; rw [if_pos hh]; rfl
    | 3, _ => show oV (easeO r n) = _; unfold easeO; rw [if_pos hh]; rfl
    | 4, _ => show pV r n = _; unfold pV; rw [if_pos hh]; rfl
  | true =>
    have hg := hg rfl
    have hnm : nameOk (zAt z0 z1 z2 z3 who) = true := by
      match who, ho with
      | 0, _ => exact hz z0 (by simp)
      | 1, _ => exact hz z1 (by simp)
      | 2, _ => exact hz z2 (by simp)
      | 3, _ => exact hz z3 (by simp)
    generalize zAt z0 z1 z2 z3 who = z at hg hnm a1 a2
    subst hg
    have hh : hereB r (.str z) = (inI (who : Int) (insL way) || inI (who : Int) (waL way)) := by
      show (nameOk z && (insideB r z || waitsB r z)) = _
      rw [hnm, a1, a2]; rfl
    match deed, hd with
    | 0, _ =>
      show oV (comeO r (.str z) w) = cond (!wished) 1 (cond (inI (who : Int) (insL way ++ waL way)) 2 (-1))
      unfold comeO
      rw [if_neg (bt_ne (show isName (.str z) = true from hnm))]
      cases wished with
      | false => rw [if_pos hs]; rfl
      | true =>
        rw [if_neg (bt_ne hs)]
        simp only
        rw [a1, a2, iapp]
        cases (inI (who : Int) (insL way) || inI (who : Int) (waL way)) with
        | true => rw [if_pos rfl]; rfl
        | false => rw [if_neg Bool.false_ne_true]; rfl
    | 1, _ =>
      show oV (leaveO r (.str z)) = cond (false || !inI (who : Int) (insL way ++ waL way)) 3 (-1)
      unfold leaveO
      rw [hh, iapp]
      cases (inI (who : Int) (insL way) || inI (who : Int) (waL way)) with
      | true => rw [if_neg (by decide)]; rfl
      | false => rw [if_pos rfl]; rfl
    | 2, _ =>
      show oV (askO r (.str z)) = cond (false || !inI (who : Int) (insL way ++ waL way)) 3 (cond (inI (who : Int) (waL way)) 4 (cond (decide (way = 2) || decide (way = 4)) 7 (cond (decide (4 < way)) 8 (-1))))
      unfold askO
      rw [hh, iapp]
      cases (inI (who : Int) (insL way) || inI (who : Int) (waL way)) with
      | false => rw [if_pos rfl]; rfl
      | true =>
        rw [if_neg (by decide)]
        simp only
        rw [a2, s1, s2]
        cases inI (who : Int) (waL way) with
        | true => rw [if_pos rfl]; rfl
        | false =>
          rw [if_neg Bool.false_ne_true]
          cases (decide (way = 2) || decide (way = 4)) with
          | true => rw [if_pos rfl]; rfl
          | false =>
            rw [if_neg Bool.false_ne_true]
            cases decide (4 < way) with
            | true => rw [if_pos rfl]; rfl
            | false => rw [if_neg Bool.false_ne_true]; rfl
    | 3, _ =>
      show oV (easeO r (.str z)) = cond (false || !inI (who : Int) (insL way ++ waL way)) 3 (cond (inI (who : Int) (waL way)) 4 (cond (decide (way = 2) || decide (way = 4)) (-1) 6))
      unfold easeO
      rw [hh, iapp]
      cases (inI (who : Int) (insL way) || inI (who : Int) (waL way)) with
      | false => rw [if_pos rfl]; rfl
      | true =>
        rw [if_neg (by decide)]
        simp only
        have s1' : r.alone.isNone = !(decide (way = 2) || decide (way = 4)) := by rw [← s1]; cases r.alone <;> rfl
        rw [a2, s1']
        cases inI (who : Int) (waL way) with
        | true => rw [if_pos rfl]; rfl
        | false =>
          rw [if_neg Bool.false_ne_true]
          cases (decide (way = 2) || decide (way = 4)) with
          | true => rw [if_neg (by decide)]; rfl
          | false => rw [if_pos (show (!false) = true from rfl)]; rfl
    | 4, _ =>
      show pV r (.str z) = cond (false || !inI (who : Int) (insL way ++ waL way)) 3 (cond (inI (who : Int) (insL way)) 5 (-1))
      unfold pV
      rw [hh, iapp]
      cases e : (inI (who : Int) (insL way) || inI (who : Int) (waL way)) with
      | false => rw [if_pos rfl]; rfl
      | true =>
        rw [if_neg (by decide)]
        simp only
        rw [a1, if_pos (passed0 s3 z)]
        cases inI (who : Int) (insL way) with
        | true => rw [if_pos rfl]; rfl
        | false => rw [if_neg Bool.false_ne_true]; rfl
theorem flat_eState (r : Rm) : flatN 9 (.lst (eState r)) = true := by
  unfold eState
  rw [flatN_lst, flatL_cons, flatL_cons, flatL_cons, flatL_cons, flatL_cons, flatL_cons, flatL_cons, flatL_nil, flatN_int, flatN_int, flatN_lst, flatN_lst, flatN_lst]
  have h1 : flatL 7 (r.reading.map D.str) = true := flat_strs _ _
  have h2 : ∀ o : Option Str, flatN 8 (optS o) = true := fun o => by cases o <;> rfl
  have h3 : flatL 7 (eTs r.waiting) = true := by
    unfold eTs
    exact flat_map _ _ (fun w => rfl) _
  have h4 : flatL 7 (eRows r.rows) = true := by
    unfold eRows
    exact flat_map _ _ (fun x => by unfold eR; rw [flatN_tup]; exact flat_strs _ _) _
  rw [h1, h2, h2, h3, h4]
  rfl
theorem read_law (A : Adr) : ∀ ds M Q X, m_law ds M Q X → t_law A (bodyE Q X) (startD 11 ds) M := by
  rintro ds M Q X ⟨ns, rfl, hl, h⟩
  unfold t_law
  walk_at "dl"
  intro names hlen hz nd
  have hlen : names.length = 4 := hlen
  match names, hlen with
  | [z0, z1, z2, z3], _ =>
  have n01 : z0 ≠ z1 := fun e => by subst e; simp at nd
  have n02 : z0 ≠ z2 := fun e => by subst e; simp at nd
  have n03 : z0 ≠ z3 := fun e => by subst e; simp at nd
  have n12 : z1 ≠ z2 := fun e => by subst e; simp at nd
  have n13 : z1 ≠ z3 := fun e => by subst e; simp at nd
  have n23 : z2 ≠ z3 := fun e => by subst e; simp at nd
  show t_law_1 A _ [some (.scr ns), some (.lst [.str z0, .str z1, .str z2, .str z3]), none, none, none, none, none, none, none, none, none] M
  have w1 := Int.emod_nonneg (cellAt ns 1) (show (7 : Int) ≠ 0 by decide)
  have w2 := Int.emod_lt_of_pos (cellAt ns 1) (show (0 : Int) < 7 by decide)
  obtain ⟨way, ew⟩ : ∃ way : Nat, cellAt ns 1 % 7 = (way : Int) := ⟨(cellAt ns 1 % 7).toNat, by omega⟩
  have v1 := Int.emod_nonneg (cellAt ns 2) (show (4 : Int) ≠ 0 by decide)
  have v2 := Int.emod_lt_of_pos (cellAt ns 2) (show (0 : Int) < 4 by decide)
  obtain ⟨who, eo⟩ : ∃ who : Nat, cellAt ns 2 % 4 = (who : Int) := ⟨(cellAt ns 2 % 4).toNat, by omega⟩
  have hw : way < 7 := by omega
  have ho : who < 4 := by omega
  unfold t_law_1
  walk_at "dl"
  rw [ew]
  unfold t_law_2
  walk_at "dl"
  rw [eo]
  unfold t_law_3
  walk_at "dl"
  have ez : nth [D.str z0, D.str z1, D.str z2, D.str z3] (who : Int) = some (.str (zAt z0 z1 z2 z3 who)) := by
    rw [nth_nat]
    match who, ho with
    | 0, _ | 1, _ | 2, _ | 3, _ => rfl
  rw [ez, el_some]
  have body : ∀ (n w : D) (good wished : Bool) (M1 : Mem), (good = true → n = .str (zAt z0 z1 z2 z3 who)) → (good = false → isName n = false) → isWish w = wished → okD n = true → okD w = true → decide (cellAt ns 4 / 2 % 2 = 0) = wished →
      t_law_8 A (bodyE Q X) [some (.scr ns), some (.lst [.str z0, .str z1, .str z2, .str z3]), some (.int (way : Int)), some (.int (who : Int)), some n, some (.bl good), some w, none, none, none, none] M1 := fun n w good wished M1 hg hb hs on ow ed => by
    unfold t_law_8
    walk_at "dl"
    refine ⟨fun k δ M' => ∃ o7 o8 o9 o10 : Option D, δ = [some (.scr ns), some (.lst [.str z0, .str z1, .str z2, .str z3]), some (.int (way : Int)), some (.int (who : Int)), some n, some (.bl good), some w, o7, o8, o9, o10], ⟨_, _, _, _, rfl⟩, ?_, ?_⟩
    · rintro k x δ M' hx ⟨o7, o8, o9, o10, rfl⟩
      refine ⟨trivial, ?_⟩
      obtain ⟨hk, rfl⟩ := rangeD_get hx
      have hk : k < 5 := hk
      unfold t_law_L1
      walk_at "dl"
      refine ⟨way, z0, z1, z2, z3, rfl, hw, nd, hz, fun a M2 ha => ?_⟩
      unfold t_law_L1_1
      walk_at "dl"
      refine ⟨a, rowsW way z0 z1 z2, rfl, Mem.set_same, ?_⟩
      unfold t_law_L1_2
      walk_at "dl"
      rw [ed]
      refine ⟨way, k, _, good, wished, rfl, hw, hk, ?_⟩
      have hdc := due_comes n01 n02 n03 n12 n13 n23 hz hw hk ho hg hb hs
      generalize hv : dueF way k (who : Int) good wished = v at hdc ⊢
      unfold t_law_L1_3
      walk_at "dl"
      refine ⟨a, rowsW way z0 z1 z2, k, n, w, rfl, hk, Mem.set_same, on, ow, Nat.le_trans (wgt_rows _ _ _ _) (by decide), fun M3 h3 => ?_⟩
      rw [hdc] at h3 ⊢
      have fl : flatN 9 (.lst [.int v]) = true := by rw [flatN_lst]; rfl
      walk_at "dl"
      refine ⟨fl, fl, ?_⟩
      rw [eqv_refl 9 _ fl]
      show t_law_L1_4 A _ _ _
      unfold t_law_L1_4
      walk_at "dl"
      refine cond_of (fun e => ?_) fun _ => ⟨_, _, _, _, rfl⟩
      have hv1 : v ≠ -1 := by simpa using e
      have e3 := h3 hv1
      subst e3
      refine ⟨a, rowsW way z0 z1 z2, rfl, Mem.set_same, ?_⟩
      walk_at "dl"
      refine ⟨flat_eState _, flat_eState _, ?_⟩
      rw [eqv_refl 9 _ (flat_eState _)]
      exact ⟨_, _, _, _, rfl⟩
    · rintro δ M' ⟨o7, o8, o9, o10, rfl⟩
      refine ⟨trivial, ?_⟩
      unfold t_law_9
      walk_at "dl"
      exact retD_of (h _)
  unfold t_law_4
  walk_at "dl"
  unfold t_law_5
  walk_at "dl"
  have six : ∀ (n : D) (good : Bool) (M1 : Mem), (good = true → n = .str (zAt z0 z1 z2 z3 who)) → (good = false → isName n = false) → okD n = true →
      t_law_6 A (bodyE Q X) [some (.scr ns), some (.lst [.str z0, .str z1, .str z2, .str z3]), some (.int (way : Int)), some (.int (who : Int)), some n, some (.bl good), none, none, none, none, none] M1 := fun n good M1 hg hb on => by
    unfold t_law_6
    walk_at "dl"
    obtain ⟨d, hd, en⟩ := nth_mod ([true, false].map fun b => D.str (wishS b)) (cellAt ns 4) 2 rfl (by decide)
    obtain ⟨b, _, rfl⟩ := List.mem_map.mp hd
    have en : nth [D.str (Str.ofString "read"), D.str (Str.ofString "write")] (cellAt ns 4 % 2) = some (.str (wishS b)) := by
      rw [← wishS_t, ← wishS_f]
      exact en
    rw [en, el_some]
    unfold t_law_7
    walk_at "dl"
    have wok : isWish (.str (wishS b)) = true := by
      show (decide (wishS b = Str.ofString "read") || decide (wishS b = Str.ofString "write")) = true
      rw [wishS_read, wishS_write]
      cases b <;> rfl
    have e2 := Int.emod_nonneg (cellAt ns 4 / 2) (show (2 : Int) ≠ 0 by decide)
    have e3 := Int.emod_lt_of_pos (cellAt ns 4 / 2) (show (0 : Int) < 2 by decide)
    refine cond_dec (fun e => ?_) fun e => ?_
    · refine ⟨_, rfl, fun d ok nw => ?_⟩
      exact body n d good false M1 hg hb nw on ok (decide_eq_false (by omega))
    · exact body n _ good true M1 hg hb wok on rfl (decide_eq_true (by omega))
  by_cases e : cellAt ns 3 % 3 = 1
  · rw [decide_eq_true e]
    walk_at "dl"
    refine ⟨_, z0, rfl, hz z0 (by simp), fun d ok nn => ?_⟩
    exact six d false M (fun e => by cases e) (fun _ => nn) ok
  · rw [decide_eq_false e]
    walk_at "dl"
    exact six _ true M (fun _ => rfl) (fun e => by cases e) rfl

end My
namespace My
open PySem PySem.Spec PyProof.Rows L2 DL
def topS (i : Nat) : Stmt := PySem.Challenge.pw_readwriteroom_k05_deeds_refused.main.body.getD i (.Pass ⟨0, 0, 0, 0⟩)
structure Txt (K : PySem.W.Frag) (mg : Str → Option Value) (A : Adr) : Prop where
  zero : True
  b_ValueError : mg "ValueError" = none
  b_bool : mg "bool" = none
  b_enumerate : mg "enumerate" = none
  b_int : mg "int" = none
  b_isinstance : mg "isinstance" = none
  b_len : mg "len" = none
  b_list : mg "list" = none
  b_range : mg "range" = none
  b_str : mg "str" = none
  b_sum : mg "sum" = none
  mg_LONGEST : ∃ u, mg "LONGEST" = some u ∧ RelV (.int 12) u
  mg_MOST : ∃ u, mg "MOST" = some u ∧ RelV (.int 1000000000) u
  mg_SIGNS : ∃ u, mg "SIGNS" = some u ∧ RelV (.str "abcdefghijklmnopqrstuvwxyz0123456789") u
  mg_RoomError : mg "RoomError" = some (.ref A.RoomError)
  mg_BadName : mg "BadName" = some (.ref A.BadName)
  mg_BadWish : mg "BadWish" = some (.ref A.BadWish)
  mg_BadNumber : mg "BadNumber" = some (.ref A.BadNumber)
  mg_Known : mg "Known" = some (.ref A.Known)
  mg_Stranger : mg "Stranger" = some (.ref A.Stranger)
  mg_Outside : mg "Outside" = some (.ref A.Outside)
  mg_Inside : mg "Inside" = some (.ref A.Inside)
  mg_Reads : mg "Reads" = some (.ref A.Reads)
  mg_Writes : mg "Writes" = some (.ref A.Writes)
  mg_Asked : mg "Asked" = some (.ref A.Asked)
  mg_BadText : mg "BadText" = some (.ref A.BadText)
  mg_BadJournal : mg "BadJournal" = some (.ref A.BadJournal)
  x_BadName : PySem.W.excIn K A.BadName [.type "ValueError", .type "Exception", .type "BaseException", .type "object"] "ValueError.__new__" = true
  k_BadName : PySem.W.keepIn K (.ref A.BadName) = true
  s_BadName : PySem.W.subIn K (.ref A.BadName) (.type "BaseException") = some true
  t_BadName : PySem.W.typeIn K (.ref A.BadName) = some (.type "type")
  e_BadName_RoomError : PySem.W.exmOne K (.ref A.BadName) (.ref A.RoomError) = some true
  ec_BadName : ExcC K A.BadName
  i_BadName_BadName : PySem.W.kitOne K (.ref A.BadName) (.ref A.BadName) = some true
  i_BadName_BadWish : PySem.W.kitOne K (.ref A.BadName) (.ref A.BadWish) = some false
  i_BadName_BadNumber : PySem.W.kitOne K (.ref A.BadName) (.ref A.BadNumber) = some false
  i_BadName_Known : PySem.W.kitOne K (.ref A.BadName) (.ref A.Known) = some false
  i_BadName_Stranger : PySem.W.kitOne K (.ref A.BadName) (.ref A.Stranger) = some false
  i_BadName_Outside : PySem.W.kitOne K (.ref A.BadName) (.ref A.Outside) = some false
  i_BadName_Inside : PySem.W.kitOne K (.ref A.BadName) (.ref A.Inside) = some false
  i_BadName_Reads : PySem.W.kitOne K (.ref A.BadName) (.ref A.Reads) = some false
  i_BadName_Writes : PySem.W.kitOne K (.ref A.BadName) (.ref A.Writes) = some false
  i_BadName_Asked : PySem.W.kitOne K (.ref A.BadName) (.ref A.Asked) = some false
  i_BadName_BadText : PySem.W.kitOne K (.ref A.BadName) (.ref A.BadText) = some false
  i_BadName_BadJournal : PySem.W.kitOne K (.ref A.BadName) (.ref A.BadJournal) = some false
  i_BadName_ValueError : PySem.W.kitOne K (.ref A.BadName) (.type "ValueError") = some true
  x_BadWish : PySem.W.excIn K A.BadWish [.type "ValueError", .type "Exception", .type "BaseException", .type "object"] "ValueError.__new__" = true
  k_BadWish : PySem.W.keepIn K (.ref A.BadWish) = true
  s_BadWish : PySem.W.subIn K (.ref A.BadWish) (.type "BaseException") = some true
  t_BadWish : PySem.W.typeIn K (.ref A.BadWish) = some (.type "type")
  e_BadWish_RoomError : PySem.W.exmOne K (.ref A.BadWish) (.ref A.RoomError) = some true
  ec_BadWish : ExcC K A.BadWish
  i_BadWish_BadName : PySem.W.kitOne K (.ref A.BadWish) (.ref A.BadName) = some false
  i_BadWish_BadWish : PySem.W.kitOne K (.ref A.BadWish) (.ref A.BadWish) = some true
  i_BadWish_BadNumber : PySem.W.kitOne K (.ref A.BadWish) (.ref A.BadNumber) = some false
  i_BadWish_Known : PySem.W.kitOne K (.ref A.BadWish) (.ref A.Known) = some false
  i_BadWish_Stranger : PySem.W.kitOne K (.ref A.BadWish) (.ref A.Stranger) = some false
  i_BadWish_Outside : PySem.W.kitOne K (.ref A.BadWish) (.ref A.Outside) = some false
  i_BadWish_Inside : PySem.W.kitOne K (.ref A.BadWish) (.ref A.Inside) = some false
  i_BadWish_Reads : PySem.W.kitOne K (.ref A.BadWish) (.ref A.Reads) = some false
  i_BadWish_Writes : PySem.W.kitOne K (.ref A.BadWish) (.ref A.Writes) = some false
  i_BadWish_Asked : PySem.W.kitOne K (.ref A.BadWish) (.ref A.Asked) = some false
  i_BadWish_BadText : PySem.W.kitOne K (.ref A.BadWish) (.ref A.BadText) = some false
  i_BadWish_BadJournal : PySem.W.kitOne K (.ref A.BadWish) (.ref A.BadJournal) = some false
  i_BadWish_ValueError : PySem.W.kitOne K (.ref A.BadWish) (.type "ValueError") = some true
  x_BadNumber : PySem.W.excIn K A.BadNumber [.type "ValueError", .type "Exception", .type "BaseException", .type "object"] "ValueError.__new__" = true
  k_BadNumber : PySem.W.keepIn K (.ref A.BadNumber) = true
  s_BadNumber : PySem.W.subIn K (.ref A.BadNumber) (.type "BaseException") = some true
  t_BadNumber : PySem.W.typeIn K (.ref A.BadNumber) = some (.type "type")
  e_BadNumber_RoomError : PySem.W.exmOne K (.ref A.BadNumber) (.ref A.RoomError) = some true
  x_Known : PySem.W.excIn K A.Known [.type "ValueError", .type "Exception", .type "BaseException", .type "object"] "ValueError.__new__" = true
  k_Known : PySem.W.keepIn K (.ref A.Known) = true
  s_Known : PySem.W.subIn K (.ref A.Known) (.type "BaseException") = some true
  t_Known : PySem.W.typeIn K (.ref A.Known) = some (.type "type")
  e_Known_RoomError : PySem.W.exmOne K (.ref A.Known) (.ref A.RoomError) = some true
  ec_Known : ExcC K A.Known
  i_Known_BadName : PySem.W.kitOne K (.ref A.Known) (.ref A.BadName) = some false
  i_Known_BadWish : PySem.W.kitOne K (.ref A.Known) (.ref A.BadWish) = some false
  i_Known_BadNumber : PySem.W.kitOne K (.ref A.Known) (.ref A.BadNumber) = some false
  i_Known_Known : PySem.W.kitOne K (.ref A.Known) (.ref A.Known) = some true
  i_Known_Stranger : PySem.W.kitOne K (.ref A.Known) (.ref A.Stranger) = some false
  i_Known_Outside : PySem.W.kitOne K (.ref A.Known) (.ref A.Outside) = some false
  i_Known_Inside : PySem.W.kitOne K (.ref A.Known) (.ref A.Inside) = some false
  i_Known_Reads : PySem.W.kitOne K (.ref A.Known) (.ref A.Reads) = some false
  i_Known_Writes : PySem.W.kitOne K (.ref A.Known) (.ref A.Writes) = some false
  i_Known_Asked : PySem.W.kitOne K (.ref A.Known) (.ref A.Asked) = some false
  i_Known_BadText : PySem.W.kitOne K (.ref A.Known) (.ref A.BadText) = some false
  i_Known_BadJournal : PySem.W.kitOne K (.ref A.Known) (.ref A.BadJournal) = some false
  i_Known_ValueError : PySem.W.kitOne K (.ref A.Known) (.type "ValueError") = some true
  x_Stranger : PySem.W.excIn K A.Stranger [.type "ValueError", .type "Exception", .type "BaseException", .type "object"] "ValueError.__new__" = true
  k_Stranger : PySem.W.keepIn K (.ref A.Stranger) = true
  s_Stranger : PySem.W.subIn K (.ref A.Stranger) (.type "BaseException") = some true
  t_Stranger : PySem.W.typeIn K (.ref A.Stranger) = some (.type "type")
  e_Stranger_RoomError : PySem.W.exmOne K (.ref A.Stranger) (.ref A.RoomError) = some true
  ec_Stranger : ExcC K A.Stranger
  i_Stranger_BadName : PySem.W.kitOne K (.ref A.Stranger) (.ref A.BadName) = some false
  i_Stranger_BadWish : PySem.W.kitOne K (.ref A.Stranger) (.ref A.BadWish) = some false
  i_Stranger_BadNumber : PySem.W.kitOne K (.ref A.Stranger) (.ref A.BadNumber) = some false
  i_Stranger_Known : PySem.W.kitOne K (.ref A.Stranger) (.ref A.Known) = some false
  i_Stranger_Stranger : PySem.W.kitOne K (.ref A.Stranger) (.ref A.Stranger) = some true
  i_Stranger_Outside : PySem.W.kitOne K (.ref A.Stranger) (.ref A.Outside) = some false
  i_Stranger_Inside : PySem.W.kitOne K (.ref A.Stranger) (.ref A.Inside) = some false
  i_Stranger_Reads : PySem.W.kitOne K (.ref A.Stranger) (.ref A.Reads) = some false
  i_Stranger_Writes : PySem.W.kitOne K (.ref A.Stranger) (.ref A.Writes) = some false
  i_Stranger_Asked : PySem.W.kitOne K (.ref A.Stranger) (.ref A.Asked) = some false
  i_Stranger_BadText : PySem.W.kitOne K (.ref A.Stranger) (.ref A.BadText) = some false
  i_Stranger_BadJournal : PySem.W.kitOne K (.ref A.Stranger) (.ref A.BadJournal) = some false
  i_Stranger_ValueError : PySem.W.kitOne K (.ref A.Stranger) (.type "ValueError") = some true
  x_Outside : PySem.W.excIn K A.Outside [.type "ValueError", .type "Exception", .type "BaseException", .type "object"] "ValueError.__new__" = true
  k_Outside : PySem.W.keepIn K (.ref A.Outside) = true
  s_Outside : PySem.W.subIn K (.ref A.Outside) (.type "BaseException") = some true
  t_Outside : PySem.W.typeIn K (.ref A.Outside) = some (.type "type")
  e_Outside_RoomError : PySem.W.exmOne K (.ref A.Outside) (.ref A.RoomError) = some true
  ec_Outside : ExcC K A.Outside
  i_Outside_BadName : PySem.W.kitOne K (.ref A.Outside) (.ref A.BadName) = some false
  i_Outside_BadWish : PySem.W.kitOne K (.ref A.Outside) (.ref A.BadWish) = some false
  i_Outside_BadNumber : PySem.W.kitOne K (.ref A.Outside) (.ref A.BadNumber) = some false
  i_Outside_Known : PySem.W.kitOne K (.ref A.Outside) (.ref A.Known) = some false
  i_Outside_Stranger : PySem.W.kitOne K (.ref A.Outside) (.ref A.Stranger) = some false
  i_Outside_Outside : PySem.W.kitOne K (.ref A.Outside) (.ref A.Outside) = some true
  i_Outside_Inside : PySem.W.kitOne K (.ref A.Outside) (.ref A.Inside) = some false
  i_Outside_Reads : PySem.W.kitOne K (.ref A.Outside) (.ref A.Reads) = some false
  i_Outside_Writes : PySem.W.kitOne K (.ref A.Outside) (.ref A.Writes) = some false
  i_Outside_Asked : PySem.W.kitOne K (.ref A.Outside) (.ref A.Asked) = some false
  i_Outside_BadText : PySem.W.kitOne K (.ref A.Outside) (.ref A.BadText) = some false
  i_Outside_BadJournal : PySem.W.kitOne K (.ref A.Outside) (.ref A.BadJournal) = some false
  i_Outside_ValueError : PySem.W.kitOne K (.ref A.Outside) (.type "ValueError") = some true
  x_Inside : PySem.W.excIn K A.Inside [.type "ValueError", .type "Exception", .type "BaseException", .type "object"] "ValueError.__new__" = true
  k_Inside : PySem.W.keepIn K (.ref A.Inside) = true
  s_Inside : PySem.W.subIn K (.ref A.Inside) (.type "BaseException") = some true
  t_Inside : PySem.W.typeIn K (.ref A.Inside) = some (.type "type")
  e_Inside_RoomError : PySem.W.exmOne K (.ref A.Inside) (.ref A.RoomError) = some true
  ec_Inside : ExcC K A.Inside
  i_Inside_BadName : PySem.W.kitOne K (.ref A.Inside) (.ref A.BadName) = some false
  i_Inside_BadWish : PySem.W.kitOne K (.ref A.Inside) (.ref A.BadWish) = some false
  i_Inside_BadNumber : PySem.W.kitOne K (.ref A.Inside) (.ref A.BadNumber) = some false
  i_Inside_Known : PySem.W.kitOne K (.ref A.Inside) (.ref A.Known) = some false
  i_Inside_Stranger : PySem.W.kitOne K (.ref A.Inside) (.ref A.Stranger) = some false
  i_Inside_Outside : PySem.W.kitOne K (.ref A.Inside) (.ref A.Outside) = some false
  i_Inside_Inside : PySem.W.kitOne K (.ref A.Inside) (.ref A.Inside) = some true
  i_Inside_Reads : PySem.W.kitOne K (.ref A.Inside) (.ref A.Reads) = some false
  i_Inside_Writes : PySem.W.kitOne K (.ref A.Inside) (.ref A.Writes) = some false
  i_Inside_Asked : PySem.W.kitOne K (.ref A.Inside) (.ref A.Asked) = some false
  i_Inside_BadText : PySem.W.kitOne K (.ref A.Inside) (.ref A.BadText) = some false
  i_Inside_BadJournal : PySem.W.kitOne K (.ref A.Inside) (.ref A.BadJournal) = some false
  i_Inside_ValueError : PySem.W.kitOne K (.ref A.Inside) (.type "ValueError") = some true
  x_Reads : PySem.W.excIn K A.Reads [.type "ValueError", .type "Exception", .type "BaseException", .type "object"] "ValueError.__new__" = true
  k_Reads : PySem.W.keepIn K (.ref A.Reads) = true
  s_Reads : PySem.W.subIn K (.ref A.Reads) (.type "BaseException") = some true
  t_Reads : PySem.W.typeIn K (.ref A.Reads) = some (.type "type")
  e_Reads_RoomError : PySem.W.exmOne K (.ref A.Reads) (.ref A.RoomError) = some true
  ec_Reads : ExcC K A.Reads
  i_Reads_BadName : PySem.W.kitOne K (.ref A.Reads) (.ref A.BadName) = some false
  i_Reads_BadWish : PySem.W.kitOne K (.ref A.Reads) (.ref A.BadWish) = some false
  i_Reads_BadNumber : PySem.W.kitOne K (.ref A.Reads) (.ref A.BadNumber) = some false
  i_Reads_Known : PySem.W.kitOne K (.ref A.Reads) (.ref A.Known) = some false
  i_Reads_Stranger : PySem.W.kitOne K (.ref A.Reads) (.ref A.Stranger) = some false
  i_Reads_Outside : PySem.W.kitOne K (.ref A.Reads) (.ref A.Outside) = some false
  i_Reads_Inside : PySem.W.kitOne K (.ref A.Reads) (.ref A.Inside) = some false
  i_Reads_Reads : PySem.W.kitOne K (.ref A.Reads) (.ref A.Reads) = some true
  i_Reads_Writes : PySem.W.kitOne K (.ref A.Reads) (.ref A.Writes) = some false
  i_Reads_Asked : PySem.W.kitOne K (.ref A.Reads) (.ref A.Asked) = some false
  i_Reads_BadText : PySem.W.kitOne K (.ref A.Reads) (.ref A.BadText) = some false
  i_Reads_BadJournal : PySem.W.kitOne K (.ref A.Reads) (.ref A.BadJournal) = some false
  i_Reads_ValueError : PySem.W.kitOne K (.ref A.Reads) (.type "ValueError") = some true
  x_Writes : PySem.W.excIn K A.Writes [.type "ValueError", .type "Exception", .type "BaseException", .type "object"] "ValueError.__new__" = true
  k_Writes : PySem.W.keepIn K (.ref A.Writes) = true
  s_Writes : PySem.W.subIn K (.ref A.Writes) (.type "BaseException") = some true
  t_Writes : PySem.W.typeIn K (.ref A.Writes) = some (.type "type")
  e_Writes_RoomError : PySem.W.exmOne K (.ref A.Writes) (.ref A.RoomError) = some true
  ec_Writes : ExcC K A.Writes
  i_Writes_BadName : PySem.W.kitOne K (.ref A.Writes) (.ref A.BadName) = some false
  i_Writes_BadWish : PySem.W.kitOne K (.ref A.Writes) (.ref A.BadWish) = some false
  i_Writes_BadNumber : PySem.W.kitOne K (.ref A.Writes) (.ref A.BadNumber) = some false
  i_Writes_Known : PySem.W.kitOne K (.ref A.Writes) (.ref A.Known) = some false
  i_Writes_Stranger : PySem.W.kitOne K (.ref A.Writes) (.ref A.Stranger) = some false
  i_Writes_Outside : PySem.W.kitOne K (.ref A.Writes) (.ref A.Outside) = some false
  i_Writes_Inside : PySem.W.kitOne K (.ref A.Writes) (.ref A.Inside) = some false
  i_Writes_Reads : PySem.W.kitOne K (.ref A.Writes) (.ref A.Reads) = some false
  i_Writes_Writes : PySem.W.kitOne K (.ref A.Writes) (.ref A.Writes) = some true
  i_Writes_Asked : PySem.W.kitOne K (.ref A.Writes) (.ref A.Asked) = some false
  i_Writes_BadText : PySem.W.kitOne K (.ref A.Writes) (.ref A.BadText) = some false
  i_Writes_BadJournal : PySem.W.kitOne K (.ref A.Writes) (.ref A.BadJournal) = some false
  i_Writes_ValueError : PySem.W.kitOne K (.ref A.Writes) (.type "ValueError") = some true
  x_Asked : PySem.W.excIn K A.Asked [.type "ValueError", .type "Exception", .type "BaseException", .type "object"] "ValueError.__new__" = true
  k_Asked : PySem.W.keepIn K (.ref A.Asked) = true
  s_Asked : PySem.W.subIn K (.ref A.Asked) (.type "BaseException") = some true
  t_Asked : PySem.W.typeIn K (.ref A.Asked) = some (.type "type")
  e_Asked_RoomError : PySem.W.exmOne K (.ref A.Asked) (.ref A.RoomError) = some true
  ec_Asked : ExcC K A.Asked
  i_Asked_BadName : PySem.W.kitOne K (.ref A.Asked) (.ref A.BadName) = some false
  i_Asked_BadWish : PySem.W.kitOne K (.ref A.Asked) (.ref A.BadWish) = some false
  i_Asked_BadNumber : PySem.W.kitOne K (.ref A.Asked) (.ref A.BadNumber) = some false
  i_Asked_Known : PySem.W.kitOne K (.ref A.Asked) (.ref A.Known) = some false
  i_Asked_Stranger : PySem.W.kitOne K (.ref A.Asked) (.ref A.Stranger) = some false
  i_Asked_Outside : PySem.W.kitOne K (.ref A.Asked) (.ref A.Outside) = some false
  i_Asked_Inside : PySem.W.kitOne K (.ref A.Asked) (.ref A.Inside) = some false
  i_Asked_Reads : PySem.W.kitOne K (.ref A.Asked) (.ref A.Reads) = some false
  i_Asked_Writes : PySem.W.kitOne K (.ref A.Asked) (.ref A.Writes) = some false
  i_Asked_Asked : PySem.W.kitOne K (.ref A.Asked) (.ref A.Asked) = some true
  i_Asked_BadText : PySem.W.kitOne K (.ref A.Asked) (.ref A.BadText) = some false
  i_Asked_BadJournal : PySem.W.kitOne K (.ref A.Asked) (.ref A.BadJournal) = some false
  i_Asked_ValueError : PySem.W.kitOne K (.ref A.Asked) (.type "ValueError") = some true
  cl_Room : Cls K A.Room
  mg_Room : mg "Room" = some (.ref A.Room)
  no_alone : NoAttr K A.Room "alone"
  no_asking : NoAttr K A.Room "asking"
  no_patience : NoAttr K A.Room "patience"
  no_reading : NoAttr K A.Room "reading"
  no_rows : NoAttr K A.Room "rows"
  no_seats : NoAttr K A.Room "seats"
  no_waiting : NoAttr K A.Room "waiting"
theorem roomH_mark {k : Nat} {A : Around} (r : Room k A) (h : Option Value) : L2H.RoomH k (A.mark h) := ⟨r.dp, r.un⟩
theorem kind_BadName {K : PySem.W.Frag} {mg : Str → Option Value} {A : Adr} (T : Txt K mg A) : KindOf K A A.BadName 0 := ⟨T.ec_BadName, by decide, (fun i C h => match i, h with | 0, h => by cases h; exact T.i_BadName_BadName | 1, h => by cases h; exact T.i_BadName_BadWish | 2, h => by cases h; exact T.i_BadName_Known | 3, h => by cases h; exact T.i_BadName_Stranger | 4, h => by cases h; exact T.i_BadName_Outside | 5, h => by cases h; exact T.i_BadName_Inside | 6, h => by cases h; exact T.i_BadName_Reads | 7, h => by cases h; exact T.i_BadName_Writes | 8, h => by cases h; exact T.i_BadName_Asked | 9, h => by cases h; exact T.i_BadName_BadText | 10, h => by cases h; exact T.i_BadName_BadJournal | 11, h => by cases h; exact T.i_BadName_BadNumber | n + 12, h => by cases h), T.i_BadName_ValueError⟩
theorem kind_BadWish {K : PySem.W.Frag} {mg : Str → Option Value} {A : Adr} (T : Txt K mg A) : KindOf K A A.BadWish 1 := ⟨T.ec_BadWish, by decide, (fun i C h => match i, h with | 0, h => by cases h; exact T.i_BadWish_BadName | 1, h => by cases h; exact T.i_BadWish_BadWish | 2, h => by cases h; exact T.i_BadWish_Known | 3, h => by cases h; exact T.i_BadWish_Stranger | 4, h => by cases h; exact T.i_BadWish_Outside | 5, h => by cases h; exact T.i_BadWish_Inside | 6, h => by cases h; exact T.i_BadWish_Reads | 7, h => by cases h; exact T.i_BadWish_Writes | 8, h => by cases h; exact T.i_BadWish_Asked | 9, h => by cases h; exact T.i_BadWish_BadText | 10, h => by cases h; exact T.i_BadWish_BadJournal | 11, h => by cases h; exact T.i_BadWish_BadNumber | n + 12, h => by cases h), T.i_BadWish_ValueError⟩
theorem kind_Known {K : PySem.W.Frag} {mg : Str → Option Value} {A : Adr} (T : Txt K mg A) : KindOf K A A.Known 2 := ⟨T.ec_Known, by decide, (fun i C h => match i, h with | 0, h => by cases h; exact T.i_Known_BadName | 1, h => by cases h; exact T.i_Known_BadWish | 2, h => by cases h; exact T.i_Known_Known | 3, h => by cases h; exact T.i_Known_Stranger | 4, h => by cases h; exact T.i_Known_Outside | 5, h => by cases h; exact T.i_Known_Inside | 6, h => by cases h; exact T.i_Known_Reads | 7, h => by cases h; exact T.i_Known_Writes | 8, h => by cases h; exact T.i_Known_Asked | 9, h => by cases h; exact T.i_Known_BadText | 10, h => by cases h; exact T.i_Known_BadJournal | 11, h => by cases h; exact T.i_Known_BadNumber | n + 12, h => by cases h), T.i_Known_ValueError⟩
theorem kind_Stranger {K : PySem.W.Frag} {mg : Str → Option Value} {A : Adr} (T : Txt K mg A) : KindOf K A A.Stranger 3 := ⟨T.ec_Stranger, by decide, (fun i C h => match i, h with | 0, h => by cases h; exact T.i_Stranger_BadName | 1, h => by cases h; exact T.i_Stranger_BadWish | 2, h => by cases h; exact T.i_Stranger_Known | 3, h => by cases h; exact T.i_Stranger_Stranger | 4, h => by cases h; exact T.i_Stranger_Outside | 5, h => by cases h; exact T.i_Stranger_Inside | 6, h => by cases h; exact T.i_Stranger_Reads | 7, h => by cases h; exact T.i_Stranger_Writes | 8, h => by cases h; exact T.i_Stranger_Asked | 9, h => by cases h; exact T.i_Stranger_BadText | 10, h => by cases h; exact T.i_Stranger_BadJournal | 11, h => by cases h; exact T.i_Stranger_BadNumber | n + 12, h => by cases h), T.i_Stranger_ValueError⟩
theorem kind_Outside {K : PySem.W.Frag} {mg : Str → Option Value} {A : Adr} (T : Txt K mg A) : KindOf K A A.Outside 4 := ⟨T.ec_Outside, by decide, (fun i C h => match i, h with | 0, h => by cases h; exact T.i_Outside_BadName | 1, h => by cases h; exact T.i_Outside_BadWish | 2, h => by cases h; exact T.i_Outside_Known | 3, h => by cases h; exact T.i_Outside_Stranger | 4, h => by cases h; exact T.i_Outside_Outside | 5, h => by cases h; exact T.i_Outside_Inside | 6, h => by cases h; exact T.i_Outside_Reads | 7, h => by cases h; exact T.i_Outside_Writes | 8, h => by cases h; exact T.i_Outside_Asked | 9, h => by cases h; exact T.i_Outside_BadText | 10, h => by cases h; exact T.i_Outside_BadJournal | 11, h => by cases h; exact T.i_Outside_BadNumber | n + 12, h => by cases h), T.i_Outside_ValueError⟩
theorem kind_Inside {K : PySem.W.Frag} {mg : Str → Option Value} {A : Adr} (T : Txt K mg A) : KindOf K A A.Inside 5 := ⟨T.ec_Inside, by decide, (fun i C h => match i, h with | 0, h => by cases h; exact T.i_Inside_BadName | 1, h => by cases h; exact T.i_Inside_BadWish | 2, h => by cases h; exact T.i_Inside_Known | 3, h => by cases h; exact T.i_Inside_Stranger | 4, h => by cases h; exact T.i_Inside_Outside | 5, h => by cases h; exact T.i_Inside_Inside | 6, h => by cases h; exact T.i_Inside_Reads | 7, h => by cases h; exact T.i_Inside_Writes | 8, h => by cases h; exact T.i_Inside_Asked | 9, h => by cases h; exact T.i_Inside_BadText | 10, h => by cases h; exact T.i_Inside_BadJournal | 11, h => by cases h; exact T.i_Inside_BadNumber | n + 12, h => by cases h), T.i_Inside_ValueError⟩
theorem kind_Reads {K : PySem.W.Frag} {mg : Str → Option Value} {A : Adr} (T : Txt K mg A) : KindOf K A A.Reads 6 := ⟨T.ec_Reads, by decide, (fun i C h => match i, h with | 0, h => by cases h; exact T.i_Reads_BadName | 1, h => by cases h; exact T.i_Reads_BadWish | 2, h => by cases h; exact T.i_Reads_Known | 3, h => by cases h; exact T.i_Reads_Stranger | 4, h => by cases h; exact T.i_Reads_Outside | 5, h => by cases h; exact T.i_Reads_Inside | 6, h => by cases h; exact T.i_Reads_Reads | 7, h => by cases h; exact T.i_Reads_Writes | 8, h => by cases h; exact T.i_Reads_Asked | 9, h => by cases h; exact T.i_Reads_BadText | 10, h => by cases h; exact T.i_Reads_BadJournal | 11, h => by cases h; exact T.i_Reads_BadNumber | n + 12, h => by cases h), T.i_Reads_ValueError⟩
theorem kind_Writes {K : PySem.W.Frag} {mg : Str → Option Value} {A : Adr} (T : Txt K mg A) : KindOf K A A.Writes 7 := ⟨T.ec_Writes, by decide, (fun i C h => match i, h with | 0, h => by cases h; exact T.i_Writes_BadName | 1, h => by cases h; exact T.i_Writes_BadWish | 2, h => by cases h; exact T.i_Writes_Known | 3, h => by cases h; exact T.i_Writes_Stranger | 4, h => by cases h; exact T.i_Writes_Outside | 5, h => by cases h; exact T.i_Writes_Inside | 6, h => by cases h; exact T.i_Writes_Reads | 7, h => by cases h; exact T.i_Writes_Writes | 8, h => by cases h; exact T.i_Writes_Asked | 9, h => by cases h; exact T.i_Writes_BadText | 10, h => by cases h; exact T.i_Writes_BadJournal | 11, h => by cases h; exact T.i_Writes_BadNumber | n + 12, h => by cases h), T.i_Writes_ValueError⟩
theorem kind_Asked {K : PySem.W.Frag} {mg : Str → Option Value} {A : Adr} (T : Txt K mg A) : KindOf K A A.Asked 8 := ⟨T.ec_Asked, by decide, (fun i C h => match i, h with | 0, h => by cases h; exact T.i_Asked_BadName | 1, h => by cases h; exact T.i_Asked_BadWish | 2, h => by cases h; exact T.i_Asked_Known | 3, h => by cases h; exact T.i_Asked_Stranger | 4, h => by cases h; exact T.i_Asked_Outside | 5, h => by cases h; exact T.i_Asked_Inside | 6, h => by cases h; exact T.i_Asked_Reads | 7, h => by cases h; exact T.i_Asked_Writes | 8, h => by cases h; exact T.i_Asked_Asked | 9, h => by cases h; exact T.i_Asked_BadText | 10, h => by cases h; exact T.i_Asked_BadJournal | 11, h => by cases h; exact T.i_Asked_BadNumber | n + 12, h => by cases h), T.i_Asked_ValueError⟩
theorem kinds_T {K : PySem.W.Frag} {mg : Str → Option Value} {A : Adr} (T : Txt K mg A) : ∀ c : Rf, KindOf K A (c.at A) c.idx
  | .name => kind_BadName T
  | .wish => kind_BadWish T
  | .known => kind_Known T
  | .stranger => kind_Stranger T
  | .outside => kind_Outside T
  | .reads => kind_Reads T
  | .writes => kind_Writes T
  | .asked => kind_Asked T
section
variable {P : Program} {w : World} {K : PySem.W.Frag} {mg : Str → Option Value} {base : Heap} {A : Adr}
abbrev s_l_people : Stmt := topS 29
abbrev n_l_people : List Str := ["_law_cell", "_law_many", "_law_some", "_law_head", "_law_rest", "_law_k", "_law_way", "_law_left", "_law_right"]
theorem sc_l_people : FnScope n_l_people ["_law_cell", "_law_many"] (defScope s_l_people) := ⟨rfl, rfl, rfl, by decide +kernel, rfl, by decide +kernel, by decide +kernel⟩
theorem ok_l_people {f : Addr} {fd : FuncData} (F : Fun K "_law_people" "_law_people" s_l_people f fd) (T : Txt K mg A)  : FnD P w K mg base 1 f fd ["_law_cell", "_law_many"] m_l_people := by
  refine DL.okD (N := n_l_people) F sc_l_people len_l_people (by decide) (fun cdv Ar outer s H E hr => ?_) read_l_people
  have hu := hu_of hr
  have hw := hr.units
  have nd := sc_l_people.nd
  have tk : L2N.Takes (cxOf (L2N.CX P w) P w K mg base n_l_people "_law_people" (defScope s_l_people) f cdv Ar outer s H E) (WE0 E) := L2N.takes_of rfl rfl rfl rfl
  have hp : PassesOwn (model P w) (Ar.deeper (envOfC "_law_people" (defScope s_l_people) s.heap.objs.size f cdv)) (envOfC "_law_people" (defScope s_l_people) s.heap.objs.size f cdv) (cxOf (L2N.CX P w) P w K mg base n_l_people "_law_people" (defScope s_l_people) f cdv Ar outer s H E).xe := passes_of (X := cxOf (L2N.CX P w) P w K mg base n_l_people "_law_people" (defScope s_l_people) f cdv Ar outer s H E) rfl
  exact (pdss_cons (pds_set (i := 2) nd rfl (Or.inr rfl) (pd_str (by decide +kernel)))
      (pdss_cons (pds_set (i := 3) nd rfl (Or.inr rfl) (pd_str (by decide +kernel)))
      (pdss_cons (pds_set (i := 4) nd rfl (Or.inl rfl) (pd_div (pd_v 0) pd_int))
      (pdss_cons (pds_for hp rfl (pdi_range1 rfl T.b_range (pda_cons pd_int pda_nil)) (pdg_name (i := 5) nd rfl (Or.inl rfl)) (pdss_cons (pds_set (i := 3) nd rfl (Or.inr rfl) (pd_add (pd_v 3) (pd_ix hu (pd_v 2) (pd_mod (pd_v 4) pd_int))))
      (pdss_one (pds_set (i := 4) nd rfl (Or.inl rfl) (pd_div (pd_v 4) pd_int)))))
      (pdss_cons (pds_set (i := 6) nd rfl (Or.inl rfl) (pd_mod (pd_v 0) pd_int))
      (pdss_cons (pds_if (pdt_w (pdw_and (pdt_eq hw (pd_v 6) pd_int) (pdw_and1 (pdt_lt (pd_v 1) pd_int)))) (pdss_one (pds_ret (pd_lc rfl nd (pdi_range1 rfl T.b_range (pda_cons (pd_v 1) pda_nil)) (blkOk_by (own := [("_law_k", 5)]) (N := n_l_people) (sc := defScope s_l_people) (by decide +kernel)) (fun _ _ _ _ _ => pg_name (i := 5) nd rfl (Or.inl rfl)) (fun _ _ _ _ _ => pdts_nil) (fun _ _ _ _ _ => (pd_slice (pd_v 3) pdo_none (pdo_some (pd_add (pd_v 5) pd_int))))))) pdss_nil)
      (pdss_cons (pds_if (pdt_w (pdw_and (pdt_eq hw (pd_v 6) pd_int) (pdw_and1 (pdt_lt (pd_v 1) pd_int)))) (pdss_one (pds_ret (pd_lc rfl nd (pdi_range1 rfl T.b_range (pda_cons (pd_v 1) pda_nil)) (blkOk_by (own := [("_law_k", 5)]) (N := n_l_people) (sc := defScope s_l_people) (by decide +kernel)) (fun _ _ _ _ _ => pg_name (i := 5) nd rfl (Or.inl rfl)) (fun _ _ _ _ _ => pdts_nil) (fun _ _ _ _ _ => (pd_slice (pd_v 3) (pdo_some (pd_sub pd_int (pd_v 5))) pdo_none))))) pdss_nil)
      (pdss_cons (pds_set (i := 3) nd rfl (Or.inr rfl) (pd_slice (pd_v 3) pdo_none (pdo_some (pd_mod (pd_div (pd_v 0) pd_int) pd_int))))
      (pdss_cons (pds_if (pdt_w (pdw_and (pdt_lt (pd_v 6) pd_int) (pdw_and1 (pdt_lt (pd_v 1) pd_int)))) (pdss_cons (pds_set (i := 7) nd rfl (Or.inr rfl) (pd_slice (pd_v 3) pdo_none (pdo_some (pd_mod (pd_div (pd_v 0) pd_int) (pd_add (pd_callB call_len l_len rfl T.b_len (by decide +kernel) (pda_cons (pd_v 3) pda_nil)) pd_int)))))
      (pdss_cons (pds_set (i := 8) nd rfl (Or.inr rfl) (pd_slice (pd_v 3) (pdo_some (pd_callB call_len l_len rfl T.b_len (by decide +kernel) (pda_cons (pd_v 7) pda_nil))) pdo_none))
      (pdss_one (pds_ret (pd_lc rfl nd (pdi_range1 rfl T.b_range (pda_cons (pd_v 1) pda_nil)) (blkOk_by (own := [("_law_k", 5)]) (N := n_l_people) (sc := defScope s_l_people) (by decide +kernel)) (fun _ _ _ _ _ => pg_name (i := 5) nd rfl (Or.inl rfl)) (fun _ _ _ _ _ => pdts_nil) (fun _ _ _ _ _ => (pd_add (pd_add (pd_v 7) (pd_ix hu (pd_v 2) (pd_mod (pd_add (pd_div (pd_v 0) pd_int) (pd_mul pd_int (pd_v 5))) pd_int))) (pd_v 8)))))))) pdss_nil)
      (pdss_cons (pds_set (i := 3) nd rfl (Or.inr rfl) (pd_slice (pd_v 3) pdo_none (pdo_some (pd_sub pd_int (pd_callTy call_int1 l_int1 rfl T.b_int (by decide +kernel) (pda_cons (pd_gt (pd_v 1) pd_int) pda_nil))))))
      (pdss_one (pds_ret (pd_lc rfl nd (pdi_range1 rfl T.b_range (pda_cons (pd_v 1) pda_nil)) (blkOk_by (own := [("_law_k", 5)]) (N := n_l_people) (sc := defScope s_l_people) (by decide +kernel)) (fun _ _ _ _ _ => pg_name (i := 5) nd rfl (Or.inl rfl)) (fun _ _ _ _ _ => pdts_nil) (fun _ _ _ _ _ => (pd_add (pd_v 3) (pd_callTy call_str_int l_str1 rfl T.b_str (by decide +kernel) (pda_cons (pd_v 5) pda_nil)))))))))))))))))
abbrev s_l_cell_at : Stmt := topS 27
abbrev n_l_cell_at : List Str := ["_law_script", "_law_k"]
theorem sc_l_cell_at : FnScope n_l_cell_at ["_law_script", "_law_k"] (defScope s_l_cell_at) := ⟨rfl, rfl, rfl, by decide +kernel, rfl, by decide +kernel, by decide +kernel⟩
theorem ok_l_cell_at {f : Addr} {fd : FuncData} (F : Fun K "_law_cell_at" "_law_cell_at" s_l_cell_at f fd) (T : Txt K mg A)  : FnD P w K mg base 1 f fd ["_law_script", "_law_k"] m_l_cell_at := by
  refine DL.okD (N := n_l_cell_at) F sc_l_cell_at len_l_cell_at (by decide) (fun cdv Ar outer s H E hr => ?_) read_l_cell_at
  have hu := hu_of hr
  have hw := hr.units
  have nd := sc_l_cell_at.nd
  have tk : L2N.Takes (cxOf (L2N.CX P w) P w K mg base n_l_cell_at "_law_cell_at" (defScope s_l_cell_at) f cdv Ar outer s H E) (WE0 E) := L2N.takes_of rfl rfl rfl rfl
  have hp : PassesOwn (model P w) (Ar.deeper (envOfC "_law_cell_at" (defScope s_l_cell_at) s.heap.objs.size f cdv)) (envOfC "_law_cell_at" (defScope s_l_cell_at) s.heap.objs.size f cdv) (cxOf (L2N.CX P w) P w K mg base n_l_cell_at "_law_cell_at" (defScope s_l_cell_at) f cdv Ar outer s H E).xe := passes_of (X := cxOf (L2N.CX P w) P w K mg base n_l_cell_at "_law_cell_at" (defScope s_l_cell_at) f cdv Ar outer s H E) rfl
  exact (pdss_cons (pds_if (pdt_lt (pd_v 1) (pd_callB call_len l_len rfl T.b_len (by decide +kernel) (pda_cons (pd_v 0) pda_nil))) (pdss_one (pds_ret (pd_ix hu (pd_v 0) (pd_v 1)))) pdss_nil)
      (pdss_one (pds_ret pd_int)))
abbrev s_l_no_name : Stmt := topS 35
abbrev n_l_no_name : List Str := ["_law_cell", "_law_name", "_law_some"]
theorem sc_l_no_name : FnScope n_l_no_name ["_law_cell", "_law_name"] (defScope s_l_no_name) := ⟨rfl, rfl, rfl, by decide +kernel, rfl, by decide +kernel, by decide +kernel⟩
theorem ok_l_no_name {f : Addr} {fd : FuncData} (F : Fun K "_law_no_name" "_law_no_name" s_l_no_name f fd) (T : Txt K mg A)  : FnD P w K mg base 1 f fd ["_law_cell", "_law_name"] m_l_no_name := by
  refine DL.okD (N := n_l_no_name) F sc_l_no_name len_l_no_name (by decide) (fun cdv Ar outer s H E hr => ?_) read_l_no_name
  have hu := hu_of hr
  have hw := hr.units
  have nd := sc_l_no_name.nd
  have tk : L2N.Takes (cxOf (L2N.CX P w) P w K mg base n_l_no_name "_law_no_name" (defScope s_l_no_name) f cdv Ar outer s H E) (WE0 E) := L2N.takes_of rfl rfl rfl rfl
  have hp : PassesOwn (model P w) (Ar.deeper (envOfC "_law_no_name" (defScope s_l_no_name) s.heap.objs.size f cdv)) (envOfC "_law_no_name" (defScope s_l_no_name) s.heap.objs.size f cdv) (cxOf (L2N.CX P w) P w K mg base n_l_no_name "_law_no_name" (defScope s_l_no_name) f cdv Ar outer s H E).xe := passes_of (X := cxOf (L2N.CX P w) P w K mg base n_l_no_name "_law_no_name" (defScope s_l_no_name) f cdv Ar outer s H E) rfl
  exact (pdss_cons (pds_set (i := 2) nd rfl (Or.inl rfl) (pd_lst (pda_cons (pd_str (by decide +kernel)) (pda_cons (pd_str (by decide +kernel)) (pda_cons pd_non (pda_cons (pd_add (pd_v 1) (pd_str (by decide +kernel))) (pda_cons (pd_lst (pda_cons (pd_v 1) pda_nil)) (pda_cons pd_bl (pda_cons pd_int (pda_cons (pd_tup (pda_cons (pd_v 1) pda_nil)) (pda_cons pd_dic0 (pda_cons (pd_add (pd_v 1) (pd_str (by decide +kernel))) (pda_cons (pd_add (pd_str (by decide +kernel)) (pd_v 1)) pda_nil)))))))))))))
      (pdss_cons (pds_set (i := 2) nd rfl (Or.inl rfl) (pd_add (pd_v 2) (pd_lst (pda_cons (pd_frz (pd_dis1 (pd_v 1) (pd_v 1))) (pda_cons (pd_add (pd_slice (pd_v 1) pdo_none (pdo_some pd_int)) (pd_str (by decide +kernel))) pda_nil)))))
      (pdss_one (pds_ret (pd_ix hu (pd_v 2) (pd_mod (pd_v 0) pd_int))))))
abbrev s_l_no_wish : Stmt := topS 36
abbrev n_l_no_wish : List Str := ["_law_cell"]
theorem sc_l_no_wish : FnScope n_l_no_wish ["_law_cell"] (defScope s_l_no_wish) := ⟨rfl, rfl, rfl, by decide +kernel, rfl, by decide +kernel, by decide +kernel⟩
theorem ok_l_no_wish {f : Addr} {fd : FuncData} (F : Fun K "_law_no_wish" "_law_no_wish" s_l_no_wish f fd) (T : Txt K mg A)  : FnD P w K mg base 1 f fd ["_law_cell"] m_l_no_wish := by
  refine DL.okD (N := n_l_no_wish) F sc_l_no_wish len_l_no_wish (by decide) (fun cdv Ar outer s H E hr => ?_) read_l_no_wish
  have hu := hu_of hr
  have hw := hr.units
  have nd := sc_l_no_wish.nd
  have tk : L2N.Takes (cxOf (L2N.CX P w) P w K mg base n_l_no_wish "_law_no_wish" (defScope s_l_no_wish) f cdv Ar outer s H E) (WE0 E) := L2N.takes_of rfl rfl rfl rfl
  have hp : PassesOwn (model P w) (Ar.deeper (envOfC "_law_no_wish" (defScope s_l_no_wish) s.heap.objs.size f cdv)) (envOfC "_law_no_wish" (defScope s_l_no_wish) s.heap.objs.size f cdv) (cxOf (L2N.CX P w) P w K mg base n_l_no_wish "_law_no_wish" (defScope s_l_no_wish) f cdv Ar outer s H E).xe := passes_of (X := cxOf (L2N.CX P w) P w K mg base n_l_no_wish "_law_no_wish" (defScope s_l_no_wish) f cdv Ar outer s H E) rfl
  exact (pdss_one (pds_ret (pd_ix hu (pd_lst (pda_cons (pd_str (by decide +kernel)) (pda_cons pd_non (pda_cons (pd_lst pda_nil) (pda_cons pd_bl (pda_cons (pd_tup (pda_cons (pd_str (by decide +kernel)) pda_nil)) (pda_cons (pd_str (by decide +kernel)) (pda_cons (pd_str (by decide +kernel)) (pda_cons (pd_frz (pd_disp (pdp_cons pd_int pdp_nil))) (pda_cons pd_int (pda_cons (pd_str (by decide +kernel)) pda_nil))))))))))) (pd_mod (pd_v 0) pd_int))))
abbrev s_is_number : Stmt := topS 20
abbrev n_is_number : List Str := ["thing", "least"]
theorem sc_is_number : FnScope n_is_number ["thing", "least"] (defScope s_is_number) := ⟨rfl, rfl, rfl, by decide +kernel, rfl, by decide +kernel, by decide +kernel⟩
theorem ok_is_number {f : Addr} {fd : FuncData} (F : Fun K "is_number" "is_number" s_is_number f fd) (T : Txt K mg A)  : FnD P w K mg base 1 f fd ["thing", "least"] m_is_number := by
  refine DL.okD (N := n_is_number) F sc_is_number len_is_number (by decide) (fun cdv Ar outer s H E hr => ?_) read_is_number
  have hu := hu_of hr
  have hw := hr.units
  have nd := sc_is_number.nd
  have tk : L2N.Takes (cxOf (L2N.CX P w) P w K mg base n_is_number "is_number" (defScope s_is_number) f cdv Ar outer s H E) (WE0 E) := L2N.takes_of rfl rfl rfl rfl
  have hp : PassesOwn (model P w) (Ar.deeper (envOfC "is_number" (defScope s_is_number) s.heap.objs.size f cdv)) (envOfC "is_number" (defScope s_is_number) s.heap.objs.size f cdv) (cxOf (L2N.CX P w) P w K mg base n_is_number "is_number" (defScope s_is_number) f cdv Ar outer s H E).xe := passes_of (X := cxOf (L2N.CX P w) P w K mg base n_is_number "is_number" (defScope s_is_number) f cdv Ar outer s H E) rfl
  exact (pdss_one (pds_ret (pd_and (pd_callB call_isi l_isi rfl T.b_isinstance (by decide +kernel) (pda_cons (pd_v 0) (pda_cons (pd_bltn rfl T.b_int (by decide +kernel)) pda_nil))) (pd_and (pd_not (pd_callB call_isi l_isi rfl T.b_isinstance (by decide +kernel) (pda_cons (pd_v 0) (pda_cons (pd_bltn rfl T.b_bool (by decide +kernel)) pda_nil)))) (pd_one (pd_chain op_le op_le l_cmp l_cmp (pd_v 1) (pd_v 0) (pd_globE (v := .int 1000000000) rfl T.mg_MOST (fun _ => .int _))))))))
abbrev s_room_init : Stmt := inClass (topS 25) 0
abbrev n_room_init : List Str := ["self", "seats", "patience"]
theorem sc_room_init : FnScope n_room_init ["self", "seats", "patience"] (defScope s_room_init) := ⟨rfl, rfl, rfl, by decide +kernel, rfl, by decide +kernel, by decide +kernel⟩
theorem ok_room_init {f : Addr} {fd : FuncData} (F : Fun K "__init__" "Room.__init__" s_room_init f fd) (T : Txt K mg A) (h_is_number : Has P w K mg base "is_number" ["thing", "least"] 1 m_is_number) : FnD P w K mg base 2 f fd ["self", "seats", "patience"] (m_room_init A) := by
  refine DL.okD (N := n_room_init) F sc_room_init (len_room_init A) (by decide) (fun cdv Ar outer s H E hr => ?_) (read_room_init A)
  have hu := hu_of hr
  have hw := hr.units
  have nd := sc_room_init.nd
  have tk : L2N.Takes (cxOf (L2N.CX P w) P w K mg base n_room_init "Room.__init__" (defScope s_room_init) f cdv Ar outer s H E) (WE0 E) := L2N.takes_of rfl rfl rfl rfl
  have hp : PassesOwn (model P w) (Ar.deeper (envOfC "Room.__init__" (defScope s_room_init) s.heap.objs.size f cdv)) (envOfC "Room.__init__" (defScope s_room_init) s.heap.objs.size f cdv) (cxOf (L2N.CX P w) P w K mg base n_room_init "Room.__init__" (defScope s_room_init) f cdv Ar outer s H E).xe := passes_of (X := cxOf (L2N.CX P w) P w K mg base n_room_init "Room.__init__" (defScope s_room_init) f cdv Ar outer s H E) rfl
  exact (pdss_cons (pds_if (pdt_w (pdw_or (pdt_not (pdt_val (pd_callH tk h_is_number (hr.mono (by decide)) rfl (pda_cons (pd_v 1) (pda_cons pd_int pda_nil))))) (pdw_or1 (pdt_not (pdt_val (pd_callH tk h_is_number (hr.mono (by decide)) rfl (pda_cons (pd_v 2) (pda_cons pd_int pda_nil)))))))) (pdss_one (pds_raise tk rfl PySem.F.excBase_ValueError T.x_BadNumber T.mg_BadNumber T.k_BadNumber (raises_own T.s_BadNumber T.t_BadNumber) rfl)) pdss_nil)
      (pdss_cons (pds_fld T.cl_Room T.no_seats (pd_v 0) (pd_v 1))
      (pdss_cons (pds_fld T.cl_Room T.no_patience (pd_v 0) (pd_v 2))
      (pdss_cons (pds_fld T.cl_Room T.no_reading (pd_v 0) (pd_lst pda_nil))
      (pdss_cons (pds_fld T.cl_Room T.no_alone (pd_v 0) pd_non)
      (pdss_cons (pds_fld T.cl_Room T.no_asking (pd_v 0) pd_non)
      (pdss_cons (pds_fld T.cl_Room T.no_waiting (pd_v 0) (pd_lst pda_nil))
      (pdss_one (pds_fld T.cl_Room T.no_rows (pd_v 0) (pd_lst pda_nil))))))))))
abbrev s_is_name : Stmt := topS 18
abbrev n_is_name : List Str := ["thing", "sign"]
theorem sc_is_name : FnScope n_is_name ["thing"] (defScope s_is_name) := ⟨rfl, rfl, rfl, by decide +kernel, rfl, by decide +kernel, by decide +kernel⟩
theorem ok_is_name {f : Addr} {fd : FuncData} (F : Fun K "is_name" "is_name" s_is_name f fd) (T : Txt K mg A)  : FnD P w K mg base 1 f fd ["thing"] m_is_name := by
  refine DL.okD (N := n_is_name) F sc_is_name len_is_name (by decide) (fun cdv Ar outer s H E hr => ?_) read_is_name
  have hu := hu_of hr
  have hw := hr.units
  have nd := sc_is_name.nd
  have tk : L2N.Takes (cxOf (L2N.CX P w) P w K mg base n_is_name "is_name" (defScope s_is_name) f cdv Ar outer s H E) (WE0 E) := L2N.takes_of rfl rfl rfl rfl
  have hp : PassesOwn (model P w) (Ar.deeper (envOfC "is_name" (defScope s_is_name) s.heap.objs.size f cdv)) (envOfC "is_name" (defScope s_is_name) s.heap.objs.size f cdv) (cxOf (L2N.CX P w) P w K mg base n_is_name "is_name" (defScope s_is_name) f cdv Ar outer s H E).xe := passes_of (X := cxOf (L2N.CX P w) P w K mg base n_is_name "is_name" (defScope s_is_name) f cdv Ar outer s H E) rfl
  exact (pdss_cons (pds_if (pdt_w (pdw_or (pdt_not (pdt_val (pd_callB call_isi l_isi rfl T.b_isinstance (by decide +kernel) (pda_cons (pd_v 0) (pda_cons (pd_bltn rfl T.b_str (by decide +kernel)) pda_nil))))) (pdw_or1 (pdt_not (pdt_chain op_le op_le l_cmp l_cmp pd_int (pd_callB call_len l_len rfl T.b_len (by decide +kernel) (pda_cons (pd_v 0) pda_nil)) (pd_globE (v := .int 12) rfl T.mg_LONGEST (fun _ => .int _))))))) (pdss_one (pds_ret pd_bl)) pdss_nil)
      (pdss_cons (pds_for hp rfl (pdi_any (pd_v 0)) (pdg_name (i := 1) nd rfl (Or.inl rfl)) (pdss_one (pds_if (pdt_notIn (pd_v 1) (pd_globE (v := .str "abcdefghijklmnopqrstuvwxyz0123456789") rfl T.mg_SIGNS (fun _ => .str _ (by decide +kernel)))) (pdss_one (pds_ret pd_bl)) pdss_nil)))
      (pdss_one (pds_ret pd_bl))))
abbrev s_is_wish : Stmt := topS 19
abbrev n_is_wish : List Str := ["thing"]
theorem sc_is_wish : FnScope n_is_wish ["thing"] (defScope s_is_wish) := ⟨rfl, rfl, rfl, by decide +kernel, rfl, by decide +kernel, by decide +kernel⟩
theorem ok_is_wish {f : Addr} {fd : FuncData} (F : Fun K "is_wish" "is_wish" s_is_wish f fd) (T : Txt K mg A)  : FnD P w K mg base 1 f fd ["thing"] m_is_wish := by
  refine DL.okD (N := n_is_wish) F sc_is_wish len_is_wish (by decide) (fun cdv Ar outer s H E hr => ?_) read_is_wish
  have hu := hu_of hr
  have hw := hr.units
  have nd := sc_is_wish.nd
  have tk : L2N.Takes (cxOf (L2N.CX P w) P w K mg base n_is_wish "is_wish" (defScope s_is_wish) f cdv Ar outer s H E) (WE0 E) := L2N.takes_of rfl rfl rfl rfl
  have hp : PassesOwn (model P w) (Ar.deeper (envOfC "is_wish" (defScope s_is_wish) s.heap.objs.size f cdv)) (envOfC "is_wish" (defScope s_is_wish) s.heap.objs.size f cdv) (cxOf (L2N.CX P w) P w K mg base n_is_wish "is_wish" (defScope s_is_wish) f cdv Ar outer s H E).xe := passes_of (X := cxOf (L2N.CX P w) P w K mg base n_is_wish "is_wish" (defScope s_is_wish) f cdv Ar outer s H E) rfl
  exact (pdss_one (pds_ret (pd_and (pd_callB call_isi l_isi rfl T.b_isinstance (by decide +kernel) (pda_cons (pd_v 0) (pda_cons (pd_bltn rfl T.b_str (by decide +kernel)) pda_nil))) (pd_one (pd_or (pd_eq hw (pd_v 0) (pd_str (by decide +kernel))) (pd_one (pd_eq hw (pd_v 0) (pd_str (by decide +kernel)))))))))
abbrev s_room_is_waiting : Stmt := inClass (topS 25) 2
abbrev n_room_is_waiting : List Str := ["self", "name", "one"]
theorem sc_room_is_waiting : FnScope n_room_is_waiting ["self", "name"] (defScope s_room_is_waiting) := ⟨rfl, rfl, rfl, by decide +kernel, rfl, by decide +kernel, by decide +kernel⟩
theorem ok_room_is_waiting {f : Addr} {fd : FuncData} (F : Fun K "is_waiting" "Room.is_waiting" s_room_is_waiting f fd) (T : Txt K mg A)  : FnD P w K mg base 1 f fd ["self", "name"] (m_room_is_waiting A) := by
  refine DL.okD (N := n_room_is_waiting) F sc_room_is_waiting (len_room_is_waiting A) (by decide) (fun cdv Ar outer s H E hr => ?_) (read_room_is_waiting A)
  have hu := hu_of hr
  have hw := hr.units
  have nd := sc_room_is_waiting.nd
  have tk : L2N.Takes (cxOf (L2N.CX P w) P w K mg base n_room_is_waiting "Room.is_waiting" (defScope s_room_is_waiting) f cdv Ar outer s H E) (WE0 E) := L2N.takes_of rfl rfl rfl rfl
  have hp : PassesOwn (model P w) (Ar.deeper (envOfC "Room.is_waiting" (defScope s_room_is_waiting) s.heap.objs.size f cdv)) (envOfC "Room.is_waiting" (defScope s_room_is_waiting) s.heap.objs.size f cdv) (cxOf (L2N.CX P w) P w K mg base n_room_is_waiting "Room.is_waiting" (defScope s_room_is_waiting) f cdv Ar outer s H E).xe := passes_of (X := cxOf (L2N.CX P w) P w K mg base n_room_is_waiting "Room.is_waiting" (defScope s_room_is_waiting) f cdv Ar outer s H E) rfl
  exact (pdss_one (pds_ret (pd_in (pd_v 1) (pd_lc rfl nd (pdi_any (pd_fld T.cl_Room T.no_waiting (pd_v 0))) (blkOk_by (own := [("one", 2)]) (N := n_room_is_waiting) (sc := defScope s_room_is_waiting) (by decide +kernel)) (fun _ _ _ _ _ => pg_name (i := 2) nd rfl (Or.inl rfl)) (fun _ _ _ _ _ => pdts_nil) (fun _ _ _ _ _ => (pd_ix hu (pd_v 2) pd_int))))))
abbrev s_room_is_inside : Stmt := inClass (topS 25) 1
abbrev n_room_is_inside : List Str := ["self", "name"]
theorem sc_room_is_inside : FnScope n_room_is_inside ["self", "name"] (defScope s_room_is_inside) := ⟨rfl, rfl, rfl, by decide +kernel, rfl, by decide +kernel, by decide +kernel⟩
theorem ok_room_is_inside {f : Addr} {fd : FuncData} (F : Fun K "is_inside" "Room.is_inside" s_room_is_inside f fd) (T : Txt K mg A)  : FnD P w K mg base 1 f fd ["self", "name"] (m_room_is_inside A) := by
  refine DL.okD (N := n_room_is_inside) F sc_room_is_inside (len_room_is_inside A) (by decide) (fun cdv Ar outer s H E hr => ?_) (read_room_is_inside A)
  have hu := hu_of hr
  have hw := hr.units
  have nd := sc_room_is_inside.nd
  have tk : L2N.Takes (cxOf (L2N.CX P w) P w K mg base n_room_is_inside "Room.is_inside" (defScope s_room_is_inside) f cdv Ar outer s H E) (WE0 E) := L2N.takes_of rfl rfl rfl rfl
  have hp : PassesOwn (model P w) (Ar.deeper (envOfC "Room.is_inside" (defScope s_room_is_inside) s.heap.objs.size f cdv)) (envOfC "Room.is_inside" (defScope s_room_is_inside) s.heap.objs.size f cdv) (cxOf (L2N.CX P w) P w K mg base n_room_is_inside "Room.is_inside" (defScope s_room_is_inside) f cdv Ar outer s H E).xe := passes_of (X := cxOf (L2N.CX P w) P w K mg base n_room_is_inside "Room.is_inside" (defScope s_room_is_inside) f cdv Ar outer s H E) rfl
  exact (pdss_one (pds_ret (pd_or (pd_in (pd_v 1) (pd_fld T.cl_Room T.no_reading (pd_v 0))) (pd_one (pd_and (pd_notN (pd_fld T.cl_Room T.no_alone (pd_v 0))) (pd_one (pd_eq hw (pd_v 1) (pd_fld T.cl_Room T.no_alone (pd_v 0)))))))))
abbrev s_can_begin : Stmt := topS 21
abbrev n_can_begin : List Str := ["seats", "reading", "writes", "wish"]
theorem sc_can_begin : FnScope n_can_begin ["seats", "reading", "writes", "wish"] (defScope s_can_begin) := ⟨rfl, rfl, rfl, by decide +kernel, rfl, by decide +kernel, by decide +kernel⟩
theorem ok_can_begin {f : Addr} {fd : FuncData} (F : Fun K "can_begin" "can_begin" s_can_begin f fd) (T : Txt K mg A)  : FnD P w K mg base 1 f fd ["seats", "reading", "writes", "wish"] m_can_begin := by
  refine DL.okD (N := n_can_begin) F sc_can_begin len_can_begin (by decide) (fun cdv Ar outer s H E hr => ?_) read_can_begin
  have hu := hu_of hr
  have hw := hr.units
  have nd := sc_can_begin.nd
  have tk : L2N.Takes (cxOf (L2N.CX P w) P w K mg base n_can_begin "can_begin" (defScope s_can_begin) f cdv Ar outer s H E) (WE0 E) := L2N.takes_of rfl rfl rfl rfl
  have hp : PassesOwn (model P w) (Ar.deeper (envOfC "can_begin" (defScope s_can_begin) s.heap.objs.size f cdv)) (envOfC "can_begin" (defScope s_can_begin) s.heap.objs.size f cdv) (cxOf (L2N.CX P w) P w K mg base n_can_begin "can_begin" (defScope s_can_begin) f cdv Ar outer s H E).xe := passes_of (X := cxOf (L2N.CX P w) P w K mg base n_can_begin "can_begin" (defScope s_can_begin) f cdv Ar outer s H E) rfl
  exact (pdss_cons (pds_if (pdt_eq hw (pd_v 3) (pd_str (by decide +kernel))) (pdss_one (pds_ret (pd_and (pd_not (pd_v 2)) (pd_one (pd_lt (pd_v 1) (pd_v 0)))))) pdss_nil)
      (pdss_one (pds_ret (pd_and (pd_not (pd_v 2)) (pd_one (pd_eq hw (pd_v 1) pd_int))))))
abbrev s_first_reader : Stmt := topS 22
abbrev n_first_reader : List Str := ["line", "place", "one"]
theorem sc_first_reader : FnScope n_first_reader ["line"] (defScope s_first_reader) := ⟨rfl, rfl, rfl, by decide +kernel, rfl, by decide +kernel, by decide +kernel⟩
theorem ok_first_reader {f : Addr} {fd : FuncData} (F : Fun K "first_reader" "first_reader" s_first_reader f fd) (T : Txt K mg A)  : FnD P w K mg base 1 f fd ["line"] m_first_reader := by
  refine DL.okD (N := n_first_reader) F sc_first_reader len_first_reader (by decide) (fun cdv Ar outer s H E hr => ?_) read_first_reader
  have hu := hu_of hr
  have hw := hr.units
  have nd := sc_first_reader.nd
  have tk : L2N.Takes (cxOf (L2N.CX P w) P w K mg base n_first_reader "first_reader" (defScope s_first_reader) f cdv Ar outer s H E) (WE0 E) := L2N.takes_of rfl rfl rfl rfl
  have hp : PassesOwn (model P w) (Ar.deeper (envOfC "first_reader" (defScope s_first_reader) s.heap.objs.size f cdv)) (envOfC "first_reader" (defScope s_first_reader) s.heap.objs.size f cdv) (cxOf (L2N.CX P w) P w K mg base n_first_reader "first_reader" (defScope s_first_reader) f cdv Ar outer s H E).xe := passes_of (X := cxOf (L2N.CX P w) P w K mg base n_first_reader "first_reader" (defScope s_first_reader) f cdv Ar outer s H E) rfl
  exact (pdss_cons (pds_for hp rfl (pdi_enum rfl T.b_enumerate (pda_cons (pd_v 0) pda_nil)) (pdg_pair (i := 1) (j := 2) rfl nd rfl (Or.inl rfl) rfl (Or.inl rfl)) (pdss_one (pds_if (pdt_eq hw (pd_ix hu (pd_v 2) pd_int) (pd_str (by decide +kernel))) (pdss_one (pds_ret (pd_v 1))) pdss_nil)))
      (pdss_one (pds_ret pd_non)))
abbrev s_next_place : Stmt := topS 23
abbrev n_next_place : List Str := ["line", "seats", "patience", "reading", "writes", "place", "one"]
theorem sc_next_place : FnScope n_next_place ["line", "seats", "patience", "reading", "writes"] (defScope s_next_place) := ⟨rfl, rfl, rfl, by decide +kernel, rfl, by decide +kernel, by decide +kernel⟩
theorem ok_next_place {f : Addr} {fd : FuncData} (F : Fun K "next_place" "next_place" s_next_place f fd) (T : Txt K mg A) (h_can_begin : Has P w K mg base "can_begin" ["seats", "reading", "writes", "wish"] 1 m_can_begin) (h_first_reader : Has P w K mg base "first_reader" ["line"] 1 m_first_reader) : FnD P w K mg base 2 f fd ["line", "seats", "patience", "reading", "writes"] m_next_place := by
  refine DL.okD (N := n_next_place) F sc_next_place len_next_place (by decide) (fun cdv Ar outer s H E hr => ?_) read_next_place
  have hu := hu_of hr
  have hw := hr.units
  have nd := sc_next_place.nd
  have tk : L2N.Takes (cxOf (L2N.CX P w) P w K mg base n_next_place "next_place" (defScope s_next_place) f cdv Ar outer s H E) (WE0 E) := L2N.takes_of rfl rfl rfl rfl
  have hp : PassesOwn (model P w) (Ar.deeper (envOfC "next_place" (defScope s_next_place) s.heap.objs.size f cdv)) (envOfC "next_place" (defScope s_next_place) s.heap.objs.size f cdv) (cxOf (L2N.CX P w) P w K mg base n_next_place "next_place" (defScope s_next_place) f cdv Ar outer s H E).xe := passes_of (X := cxOf (L2N.CX P w) P w K mg base n_next_place "next_place" (defScope s_next_place) f cdv Ar outer s H E) rfl
  exact (pdss_cons (pds_if (pdt_eq hw (pd_v 0) (pd_lst pda_nil)) (pdss_one (pds_ret pd_non)) pdss_nil)
      (pdss_cons (pds_if (pdt_val (pd_callH tk h_can_begin (hr.mono (by decide)) rfl (pda_cons (pd_v 1) (pda_cons (pd_v 3) (pda_cons (pd_v 4) (pda_cons (pd_ix hu (pd_ix hu (pd_v 0) pd_int) pd_int) pda_nil)))))) (pdss_one (pds_ret pd_int)) pdss_nil)
      (pdss_cons (pds_if (pdt_w (pdw_or (pdt_eq hw (pd_ix hu (pd_ix hu (pd_v 0) pd_int) pd_int) (pd_str (by decide +kernel))) (pdw_or1 (pdt_eq hw (pd_v 3) pd_int)))) (pdss_one (pds_ret pd_non)) pdss_nil)
      (pdss_cons (pds_set (i := 5) nd rfl (Or.inl rfl) (pd_callH tk h_first_reader (hr.mono (by decide)) rfl (pda_cons (pd_v 0) pda_nil)))
      (pdss_cons (pds_if (pdt_w (pdw_or (pdt_isN (pd_v 5)) (pdw_or1 (pdt_not (pdt_val (pd_callH tk h_can_begin (hr.mono (by decide)) rfl (pda_cons (pd_v 1) (pda_cons (pd_v 3) (pda_cons (pd_v 4) (pda_cons (pd_str (by decide +kernel)) pda_nil)))))))))) (pdss_one (pds_ret pd_non)) pdss_nil)
      (pdss_cons (pds_for hp rfl (pdi_any (pd_slice (pd_v 0) pdo_none (pdo_some (pd_v 5)))) (pdg_name (i := 6) nd rfl (Or.inl rfl)) (pdss_one (pds_if (pdt_ge (pd_ix hu (pd_v 6) pd_int) (pd_v 2)) (pdss_one (pds_ret pd_non)) pdss_nil)))
      (pdss_one (pds_ret (pd_v 5)))))))))
abbrev s_room_begun : Stmt := inClass (topS 25) 9
abbrev n_room_begun : List Str := ["self", "place", "one", "ahead", "other"]
theorem sc_room_begun : FnScope n_room_begun ["self"] (defScope s_room_begun) := ⟨rfl, rfl, rfl, by decide +kernel, rfl, by decide +kernel, by decide +kernel⟩
theorem ok_room_begun {f : Addr} {fd : FuncData} (F : Fun K "begun" "Room.begun" s_room_begun f fd) (T : Txt K mg A) (h_next_place : Has P w K mg base "next_place" ["line", "seats", "patience", "reading", "writes"] 2 m_next_place) : FnD P w K mg base 3 f fd ["self"] (m_room_begun A) := by
  refine DL.okD (N := n_room_begun) F sc_room_begun (len_room_begun A) (by decide) (fun cdv Ar outer s H E hr => ?_) (read_room_begun A)
  have hu := hu_of hr
  have hw := hr.units
  have nd := sc_room_begun.nd
  have tk : L2N.Takes (cxOf (L2N.CX P w) P w K mg base n_room_begun "Room.begun" (defScope s_room_begun) f cdv Ar outer s H E) (WE0 E) := L2N.takes_of rfl rfl rfl rfl
  have hp : PassesOwn (model P w) (Ar.deeper (envOfC "Room.begun" (defScope s_room_begun) s.heap.objs.size f cdv)) (envOfC "Room.begun" (defScope s_room_begun) s.heap.objs.size f cdv) (cxOf (L2N.CX P w) P w K mg base n_room_begun "Room.begun" (defScope s_room_begun) f cdv Ar outer s H E).xe := passes_of (X := cxOf (L2N.CX P w) P w K mg base n_room_begun "Room.begun" (defScope s_room_begun) f cdv Ar outer s H E) rfl
  exact (pdss_cons (pds_if (pdt_notN (pd_fld T.cl_Room T.no_asking (pd_v 0))) (pdss_cons (pds_if (pdt_gt (pd_callB call_len l_len rfl T.b_len (by decide +kernel) (pda_cons (pd_fld T.cl_Room T.no_reading (pd_v 0)) pda_nil)) pd_int) (pdss_one (pds_ret pd_non)) pdss_nil)
      (pdss_cons (pds_fld T.cl_Room T.no_alone (pd_v 0) (pd_fld T.cl_Room T.no_asking (pd_v 0)))
      (pdss_cons (pds_fld T.cl_Room T.no_asking (pd_v 0) pd_non)
      (pdss_cons (pds_fld T.cl_Room T.no_reading (pd_v 0) (pd_lst pda_nil))
      (pdss_one (pds_ret (pd_tup (pda_cons (pd_fld T.cl_Room T.no_alone (pd_v 0)) (pda_cons (pd_str (by decide +kernel)) pda_nil))))))))) pdss_nil)
      (pdss_cons (pds_set (i := 1) nd rfl (Or.inl rfl) (pd_callH tk h_next_place (hr.mono (by decide)) rfl (pda_cons (pd_fld T.cl_Room T.no_waiting (pd_v 0)) (pda_cons (pd_fld T.cl_Room T.no_seats (pd_v 0)) (pda_cons (pd_fld T.cl_Room T.no_patience (pd_v 0)) (pda_cons (pd_callB call_len l_len rfl T.b_len (by decide +kernel) (pda_cons (pd_fld T.cl_Room T.no_reading (pd_v 0)) pda_nil)) (pda_cons (pd_notN (pd_fld T.cl_Room T.no_alone (pd_v 0))) pda_nil)))))))
      (pdss_cons (pds_if (pdt_isN (pd_v 1)) (pdss_one (pds_ret pd_non)) pdss_nil)
      (pdss_cons (pds_set (i := 2) nd rfl (Or.inl rfl) (pd_ix hu (pd_fld T.cl_Room T.no_waiting (pd_v 0)) (pd_v 1)))
      (pdss_cons (pds_setLc (i := 3) rfl nd rfl rfl (sw_true rfl rfl rfl (by decide +kernel)) (pdi_any (pd_slice (pd_fld T.cl_Room T.no_waiting (pd_v 0)) pdo_none (pdo_some (pd_v 1)))) (blkOk_by (own := [("other", 4)]) (N := n_room_begun) (sc := defScope s_room_begun) (by decide +kernel)) (fun _ _ _ _ _ => pg_name (i := 4) nd rfl (Or.inl rfl)) (fun _ _ _ _ _ => pdts_nil) (fun _ _ _ _ _ => (pd_tup (pda_cons (pd_ix hu (pd_v 4) pd_int) (pda_cons (pd_ix hu (pd_v 4) pd_int) (pda_cons (pd_add (pd_ix hu (pd_v 4) pd_int) pd_int) pda_nil))))))
      (pdss_cons (pds_fld T.cl_Room T.no_waiting (pd_v 0) (pd_add (pd_v 3) (pd_slice (pd_fld T.cl_Room T.no_waiting (pd_v 0)) (pdo_some (pd_add (pd_v 1) pd_int)) pdo_none)))
      (pdss_cons (pds_if (pdt_eq hw (pd_ix hu (pd_v 2) pd_int) (pd_str (by decide +kernel))) (pdss_one (pds_fld T.cl_Room T.no_reading (pd_v 0) (pd_add (pd_fld T.cl_Room T.no_reading (pd_v 0)) (pd_lst (pda_cons (pd_ix hu (pd_v 2) pd_int) pda_nil))))) (pdss_one (pds_fld T.cl_Room T.no_alone (pd_v 0) (pd_ix hu (pd_v 2) pd_int))))
      (pdss_one (pds_ret (pd_tup (pda_cons (pd_ix hu (pd_v 2) pd_int) (pda_cons (pd_ix hu (pd_v 2) pd_int) pda_nil))))))))))))
abbrev s_room_settled : Stmt := inClass (topS 25) 8
abbrev n_room_settled : List Str := ["self", "row", "found", "one"]
theorem sc_room_settled : FnScope n_room_settled ["self", "row"] (defScope s_room_settled) := ⟨rfl, rfl, rfl, by decide +kernel, rfl, by decide +kernel, by decide +kernel⟩
theorem ok_room_settled {f : Addr} {fd : FuncData} (F : Fun K "settled" "Room.settled" s_room_settled f fd) (T : Txt K mg A) (h_room_begun : HasM P w K mg base A.Room "begun" ["self"] 3 (m_room_begun A)) : FnD P w K mg base 4 f fd ["self", "row"] (m_room_settled A) := by
  refine DL.okD (N := n_room_settled) F sc_room_settled (len_room_settled A) (by decide) (fun cdv Ar outer s H E hr => ?_) (read_room_settled A)
  have hu := hu_of hr
  have hw := hr.units
  have nd := sc_room_settled.nd
  have tk : L2N.Takes (cxOf (L2N.CX P w) P w K mg base n_room_settled "Room.settled" (defScope s_room_settled) f cdv Ar outer s H E) (WE0 E) := L2N.takes_of rfl rfl rfl rfl
  have hp : PassesOwn (model P w) (Ar.deeper (envOfC "Room.settled" (defScope s_room_settled) s.heap.objs.size f cdv)) (envOfC "Room.settled" (defScope s_room_settled) s.heap.objs.size f cdv) (cxOf (L2N.CX P w) P w K mg base n_room_settled "Room.settled" (defScope s_room_settled) f cdv Ar outer s H E).xe := passes_of (X := cxOf (L2N.CX P w) P w K mg base n_room_settled "Room.settled" (defScope s_room_settled) f cdv Ar outer s H E) rfl
  exact (pdss_cons (pds_fld T.cl_Room T.no_rows (pd_v 0) (pd_add (pd_fld T.cl_Room T.no_rows (pd_v 0)) (pd_lst (pda_cons (pd_v 1) pda_nil))))
      (pdss_cons (pds_set (i := 2) nd rfl (Or.inl rfl) (pd_lstM pda_nil))
      (pdss_cons (pds_set (i := 3) nd rfl (Or.inl rfl) (pd_meth0H tk (pd_v 0) T.cl_Room h_room_begun (hr.mono (by decide))))
      (pdss_cons (pds_while hp (pdt_notN (pd_v 3)) (pdss_cons (pds_expr (pd_bmL PySem.F.plainAttrs_list PySem.F.slot_list_append PySem.F.type_list_append mt_append l_append (pd_v 2) (pda_cons (pd_v 3) pda_nil)))
      (pdss_cons (pds_fld T.cl_Room T.no_rows (pd_v 0) (pd_add (pd_fld T.cl_Room T.no_rows (pd_v 0)) (pd_lst (pda_cons (pd_tup (pda_cons (pd_str (by decide +kernel)) (pda_cons (pd_ix hu (pd_v 3) pd_int) (pda_cons (pd_ix hu (pd_v 3) pd_int) pda_nil)))) pda_nil))))
      (pdss_one (pds_set (i := 3) nd rfl (Or.inl rfl) (pd_meth0H tk (pd_v 0) T.cl_Room h_room_begun (hr.mono (by decide))))))))
      (pdss_one (pds_ret (pd_v 2)))))))
abbrev s_room_come : Stmt := inClass (topS 25) 4
abbrev n_room_come : List Str := ["self", "name", "wish"]
theorem sc_room_come : FnScope n_room_come ["self", "name", "wish"] (defScope s_room_come) := ⟨rfl, rfl, rfl, by decide +kernel, rfl, by decide +kernel, by decide +kernel⟩
theorem ok_room_come {f : Addr} {fd : FuncData} (F : Fun K "come" "Room.come" s_room_come f fd) (T : Txt K mg A) (h_is_name : Has P w K mg base "is_name" ["thing"] 1 m_is_name) (h_is_wish : Has P w K mg base "is_wish" ["thing"] 1 m_is_wish) (h_room_is_waiting : HasM P w K mg base A.Room "is_waiting" ["self", "name"] 1 (m_room_is_waiting A)) (h_room_is_inside : HasM P w K mg base A.Room "is_inside" ["self", "name"] 1 (m_room_is_inside A)) (h_room_settled : HasM P w K mg base A.Room "settled" ["self", "row"] 4 (m_room_settled A)) : FnD P w K mg base 5 f fd ["self", "name", "wish"] (m_room_come A) := by
  refine DL.okD (N := n_room_come) F sc_room_come (len_room_come A) (by decide) (fun cdv Ar outer s H E hr => ?_) (read_room_come A)
  have hu := hu_of hr
  have hw := hr.units
  have nd := sc_room_come.nd
  have tk : L2N.Takes (cxOf (L2N.CX P w) P w K mg base n_room_come "Room.come" (defScope s_room_come) f cdv Ar outer s H E) (WE0 E) := L2N.takes_of rfl rfl rfl rfl
  have hp : PassesOwn (model P w) (Ar.deeper (envOfC "Room.come" (defScope s_room_come) s.heap.objs.size f cdv)) (envOfC "Room.come" (defScope s_room_come) s.heap.objs.size f cdv) (cxOf (L2N.CX P w) P w K mg base n_room_come "Room.come" (defScope s_room_come) f cdv Ar outer s H E).xe := passes_of (X := cxOf (L2N.CX P w) P w K mg base n_room_come "Room.come" (defScope s_room_come) f cdv Ar outer s H E) rfl
  exact (pdss_cons (pds_if (pdt_not (pdt_val (pd_callH tk h_is_name (hr.mono (by decide)) rfl (pda_cons (pd_v 1) pda_nil)))) (pdss_one (pds_raise tk rfl PySem.F.excBase_ValueError T.x_BadName T.mg_BadName T.k_BadName (raises_own T.s_BadName T.t_BadName) rfl)) pdss_nil)
      (pdss_cons (pds_if (pdt_not (pdt_val (pd_callH tk h_is_wish (hr.mono (by decide)) rfl (pda_cons (pd_v 2) pda_nil)))) (pdss_one (pds_raise tk rfl PySem.F.excBase_ValueError T.x_BadWish T.mg_BadWish T.k_BadWish (raises_own T.s_BadWish T.t_BadWish) rfl)) pdss_nil)
      (pdss_cons (pds_if (pdt_w (pdw_or (pdt_val (pd_methH tk (pd_v 0) T.cl_Room h_room_is_inside (hr.mono (by decide)) (pda_cons (pd_v 1) pda_nil))) (pdw_or1 (pdt_val (pd_methH tk (pd_v 0) T.cl_Room h_room_is_waiting (hr.mono (by decide)) (pda_cons (pd_v 1) pda_nil)))))) (pdss_one (pds_raise tk rfl PySem.F.excBase_ValueError T.x_Known T.mg_Known T.k_Known (raises_own T.s_Known T.t_Known) rfl)) pdss_nil)
      (pdss_cons (pds_fld T.cl_Room T.no_waiting (pd_v 0) (pd_add (pd_fld T.cl_Room T.no_waiting (pd_v 0)) (pd_lst (pda_cons (pd_tup (pda_cons (pd_v 1) (pda_cons (pd_v 2) (pda_cons pd_int pda_nil)))) pda_nil))))
      (pdss_one (pds_ret (pd_methH tk (pd_v 0) T.cl_Room h_room_settled (hr.mono (by decide)) (pda_cons (pd_tup (pda_cons (pd_str (by decide +kernel)) (pda_cons (pd_v 1) (pda_cons (pd_v 2) pda_nil)))) pda_nil))))))))
abbrev s_room_look : Stmt := inClass (topS 25) 3
abbrev n_room_look : List Str := ["self", "name"]
theorem sc_room_look : FnScope n_room_look ["self", "name"] (defScope s_room_look) := ⟨rfl, rfl, rfl, by decide +kernel, rfl, by decide +kernel, by decide +kernel⟩
theorem ok_room_look {f : Addr} {fd : FuncData} (F : Fun K "look" "Room.look" s_room_look f fd) (T : Txt K mg A) (h_room_is_waiting : HasM P w K mg base A.Room "is_waiting" ["self", "name"] 1 (m_room_is_waiting A)) (h_room_is_inside : HasM P w K mg base A.Room "is_inside" ["self", "name"] 1 (m_room_is_inside A)) (h_is_name : Has P w K mg base "is_name" ["thing"] 1 m_is_name) : FnD P w K mg base 2 f fd ["self", "name"] (m_room_look A) := by
  refine DL.okD (N := n_room_look) F sc_room_look (len_room_look A) (by decide) (fun cdv Ar outer s H E hr => ?_) (read_room_look A)
  have hu := hu_of hr
  have hw := hr.units
  have nd := sc_room_look.nd
  have tk : L2N.Takes (cxOf (L2N.CX P w) P w K mg base n_room_look "Room.look" (defScope s_room_look) f cdv Ar outer s H E) (WE0 E) := L2N.takes_of rfl rfl rfl rfl
  have hp : PassesOwn (model P w) (Ar.deeper (envOfC "Room.look" (defScope s_room_look) s.heap.objs.size f cdv)) (envOfC "Room.look" (defScope s_room_look) s.heap.objs.size f cdv) (cxOf (L2N.CX P w) P w K mg base n_room_look "Room.look" (defScope s_room_look) f cdv Ar outer s H E).xe := passes_of (X := cxOf (L2N.CX P w) P w K mg base n_room_look "Room.look" (defScope s_room_look) f cdv Ar outer s H E) rfl
  exact (pdss_one (pds_if (pdt_w (pdw_or (pdt_not (pdt_val (pd_callH tk h_is_name (hr.mono (by decide)) rfl (pda_cons (pd_v 1) pda_nil)))) (pdw_or1 (pdt_w (pdw_and (pdt_not (pdt_val (pd_methH tk (pd_v 0) T.cl_Room h_room_is_inside (hr.mono (by decide)) (pda_cons (pd_v 1) pda_nil)))) (pdw_and1 (pdt_not (pdt_val (pd_methH tk (pd_v 0) T.cl_Room h_room_is_waiting (hr.mono (by decide)) (pda_cons (pd_v 1) pda_nil)))))))))) (pdss_one (pds_raise tk rfl PySem.F.excBase_ValueError T.x_Stranger T.mg_Stranger T.k_Stranger (raises_own T.s_Stranger T.t_Stranger) rfl)) pdss_nil))
abbrev s_room_ask : Stmt := inClass (topS 25) 6
abbrev n_room_ask : List Str := ["self", "name"]
theorem sc_room_ask : FnScope n_room_ask ["self", "name"] (defScope s_room_ask) := ⟨rfl, rfl, rfl, by decide +kernel, rfl, by decide +kernel, by decide +kernel⟩
theorem ok_room_ask {f : Addr} {fd : FuncData} (F : Fun K "ask" "Room.ask" s_room_ask f fd) (T : Txt K mg A) (h_room_look : HasM P w K mg base A.Room "look" ["self", "name"] 2 (m_room_look A)) (h_room_is_waiting : HasM P w K mg base A.Room "is_waiting" ["self", "name"] 1 (m_room_is_waiting A)) (h_room_settled : HasM P w K mg base A.Room "settled" ["self", "row"] 4 (m_room_settled A)) : FnD P w K mg base 5 f fd ["self", "name"] (m_room_ask A) := by
  refine DL.okD (N := n_room_ask) F sc_room_ask (len_room_ask A) (by decide) (fun cdv Ar outer s H E hr => ?_) (read_room_ask A)
  have hu := hu_of hr
  have hw := hr.units
  have nd := sc_room_ask.nd
  have tk : L2N.Takes (cxOf (L2N.CX P w) P w K mg base n_room_ask "Room.ask" (defScope s_room_ask) f cdv Ar outer s H E) (WE0 E) := L2N.takes_of rfl rfl rfl rfl
  have hp : PassesOwn (model P w) (Ar.deeper (envOfC "Room.ask" (defScope s_room_ask) s.heap.objs.size f cdv)) (envOfC "Room.ask" (defScope s_room_ask) s.heap.objs.size f cdv) (cxOf (L2N.CX P w) P w K mg base n_room_ask "Room.ask" (defScope s_room_ask) f cdv Ar outer s H E).xe := passes_of (X := cxOf (L2N.CX P w) P w K mg base n_room_ask "Room.ask" (defScope s_room_ask) f cdv Ar outer s H E) rfl
  exact (pdss_cons (pds_expr (pd_methH tk (pd_v 0) T.cl_Room h_room_look (hr.mono (by decide)) (pda_cons (pd_v 1) pda_nil)))
      (pdss_cons (pds_if (pdt_val (pd_methH tk (pd_v 0) T.cl_Room h_room_is_waiting (hr.mono (by decide)) (pda_cons (pd_v 1) pda_nil))) (pdss_one (pds_raise tk rfl PySem.F.excBase_ValueError T.x_Outside T.mg_Outside T.k_Outside (raises_own T.s_Outside T.t_Outside) rfl)) pdss_nil)
      (pdss_cons (pds_if (pdt_notN (pd_fld T.cl_Room T.no_alone (pd_v 0))) (pdss_one (pds_raise tk rfl PySem.F.excBase_ValueError T.x_Writes T.mg_Writes T.k_Writes (raises_own T.s_Writes T.t_Writes) rfl)) pdss_nil)
      (pdss_cons (pds_if (pdt_notN (pd_fld T.cl_Room T.no_asking (pd_v 0))) (pdss_one (pds_raise tk rfl PySem.F.excBase_ValueError T.x_Asked T.mg_Asked T.k_Asked (raises_own T.s_Asked T.t_Asked) rfl)) pdss_nil)
      (pdss_cons (pds_fld T.cl_Room T.no_asking (pd_v 0) (pd_v 1))
      (pdss_one (pds_ret (pd_methH tk (pd_v 0) T.cl_Room h_room_settled (hr.mono (by decide)) (pda_cons (pd_tup (pda_cons (pd_str (by decide +kernel)) (pda_cons (pd_v 1) pda_nil))) pda_nil)))))))))
abbrev s_l_room : Stmt := topS 30
abbrev n_l_room : List Str := ["_law_way", "_law_people_here", "_law_room_here", "_law_wishes", "_law_k"]
theorem sc_l_room : FnScope n_l_room ["_law_way", "_law_people_here"] (defScope s_l_room) := ⟨rfl, rfl, rfl, by decide +kernel, rfl, by decide +kernel, by decide +kernel⟩
theorem ok_l_room {f : Addr} {fd : FuncData} (F : Fun K "_law_room" "_law_room" s_l_room f fd) (T : Txt K mg A) (h_room_init : HasI P w K mg base A.Room ["self", "seats", "patience"] 2 (m_room_init A)) (h_room_come : HasM P w K mg base A.Room "come" ["self", "name", "wish"] 5 (m_room_come A)) (h_room_ask : HasM P w K mg base A.Room "ask" ["self", "name"] 5 (m_room_ask A)) : FnD P w K mg base 6 f fd ["_law_way", "_law_people_here"] (m_l_room A) := by
  refine DL.okD (N := n_l_room) F sc_l_room (len_l_room A) (by decide) (fun cdv Ar outer s H E hr => ?_) (read_l_room A)
  have hu := hu_of hr
  have hw := hr.units
  have nd := sc_l_room.nd
  have tk : L2N.Takes (cxOf (L2N.CX P w) P w K mg base n_l_room "_law_room" (defScope s_l_room) f cdv Ar outer s H E) (WE0 E) := L2N.takes_of rfl rfl rfl rfl
  have hp : PassesOwn (model P w) (Ar.deeper (envOfC "_law_room" (defScope s_l_room) s.heap.objs.size f cdv)) (envOfC "_law_room" (defScope s_l_room) s.heap.objs.size f cdv) (cxOf (L2N.CX P w) P w K mg base n_l_room "_law_room" (defScope s_l_room) f cdv Ar outer s H E).xe := passes_of (X := cxOf (L2N.CX P w) P w K mg base n_l_room "_law_room" (defScope s_l_room) f cdv Ar outer s H E) rfl
  exact (pdss_cons (pds_set (i := 2) nd rfl (Or.inl rfl) (pd_makeH tk h_room_init (hr.mono (by decide)) rfl T.mg_Room (pda_cons pd_int (pda_cons pd_int pda_nil))))
      (pdss_cons (pds_set (i := 3) nd rfl (Or.inl rfl) (pd_lstM (pda_cons (pd_lst pda_nil) (pda_cons (pd_lst (pda_cons (pd_str (by decide +kernel)) pda_nil)) (pda_cons (pd_lst (pda_cons (pd_str (by decide +kernel)) pda_nil)) (pda_cons (pd_lst (pda_cons (pd_str (by decide +kernel)) (pda_cons (pd_str (by decide +kernel)) pda_nil))) (pda_cons (pd_lst (pda_cons (pd_str (by decide +kernel)) (pda_cons (pd_str (by decide +kernel)) pda_nil))) (pda_cons (pd_lst (pda_cons (pd_str (by decide +kernel)) (pda_cons (pd_str (by decide +kernel)) pda_nil))) pda_nil))))))))
      (pdss_cons (pds_expr (pd_bmL PySem.F.plainAttrs_list PySem.F.slot_list_append PySem.F.type_list_append mt_append l_append (pd_v 3) (pda_cons (pd_lst (pda_cons (pd_str (by decide +kernel)) (pda_cons (pd_str (by decide +kernel)) (pda_cons (pd_str (by decide +kernel)) pda_nil)))) pda_nil)))
      (pdss_cons (pds_for hp rfl (pdi_range1 rfl T.b_range (pda_cons (pd_callB call_len l_len rfl T.b_len (by decide +kernel) (pda_cons (pd_ix hu (pd_v 3) (pd_v 0)) pda_nil)) pda_nil)) (pdg_name (i := 4) nd rfl (Or.inl rfl)) (pdss_one (pds_expr (pd_frz (pd_methH tk (pd_v 2) T.cl_Room h_room_come (hr.mono (by decide)) (pda_cons (pd_ix hu (pd_v 1) (pd_v 4)) (pda_cons (pd_ix hu (pd_ix hu (pd_v 3) (pd_v 0)) (pd_v 4)) pda_nil)))))))
      (pdss_cons (pds_if (pdt_gt (pd_v 0) pd_int) (pdss_one (pds_expr (pd_frz (pd_methH tk (pd_v 2) T.cl_Room h_room_ask (hr.mono (by decide)) (pda_cons (pd_ix hu (pd_v 1) pd_int) pda_nil))))) pdss_nil)
      (pdss_one (pds_ret (pd_v 2))))))))
abbrev s_room_journal : Stmt := inClass (topS 25) 15
abbrev n_room_journal : List Str := ["self"]
theorem sc_room_journal : FnScope n_room_journal ["self"] (defScope s_room_journal) := ⟨rfl, rfl, rfl, by decide +kernel, rfl, by decide +kernel, by decide +kernel⟩
theorem ok_room_journal {f : Addr} {fd : FuncData} (F : Fun K "journal" "Room.journal" s_room_journal f fd) (T : Txt K mg A)  : FnD P w K mg base 1 f fd ["self"] (m_room_journal A) := by
  refine DL.okD (N := n_room_journal) F sc_room_journal (len_room_journal A) (by decide) (fun cdv Ar outer s H E hr => ?_) (read_room_journal A)
  have hu := hu_of hr
  have hw := hr.units
  have nd := sc_room_journal.nd
  have tk : L2N.Takes (cxOf (L2N.CX P w) P w K mg base n_room_journal "Room.journal" (defScope s_room_journal) f cdv Ar outer s H E) (WE0 E) := L2N.takes_of rfl rfl rfl rfl
  have hp : PassesOwn (model P w) (Ar.deeper (envOfC "Room.journal" (defScope s_room_journal) s.heap.objs.size f cdv)) (envOfC "Room.journal" (defScope s_room_journal) s.heap.objs.size f cdv) (cxOf (L2N.CX P w) P w K mg base n_room_journal "Room.journal" (defScope s_room_journal) f cdv Ar outer s H E).xe := passes_of (X := cxOf (L2N.CX P w) P w K mg base n_room_journal "Room.journal" (defScope s_room_journal) f cdv Ar outer s H E) rfl
  exact (pdss_one (pds_ret (pd_callTy call_list_of l_listM rfl T.b_list (by decide +kernel) (pda_cons (pd_fld T.cl_Room T.no_rows (pd_v 0)) pda_nil))))
abbrev s_room_line : Stmt := inClass (topS 25) 13
abbrev n_room_line : List Str := ["self", "one"]
theorem sc_room_line : FnScope n_room_line ["self"] (defScope s_room_line) := ⟨rfl, rfl, rfl, by decide +kernel, rfl, by decide +kernel, by decide +kernel⟩
theorem ok_room_line {f : Addr} {fd : FuncData} (F : Fun K "line" "Room.line" s_room_line f fd) (T : Txt K mg A)  : FnD P w K mg base 1 f fd ["self"] (m_room_line A) := by
  refine DL.okD (N := n_room_line) F sc_room_line (len_room_line A) (by decide) (fun cdv Ar outer s H E hr => ?_) (read_room_line A)
  have hu := hu_of hr
  have hw := hr.units
  have nd := sc_room_line.nd
  have tk : L2N.Takes (cxOf (L2N.CX P w) P w K mg base n_room_line "Room.line" (defScope s_room_line) f cdv Ar outer s H E) (WE0 E) := L2N.takes_of rfl rfl rfl rfl
  have hp : PassesOwn (model P w) (Ar.deeper (envOfC "Room.line" (defScope s_room_line) s.heap.objs.size f cdv)) (envOfC "Room.line" (defScope s_room_line) s.heap.objs.size f cdv) (cxOf (L2N.CX P w) P w K mg base n_room_line "Room.line" (defScope s_room_line) f cdv Ar outer s H E).xe := passes_of (X := cxOf (L2N.CX P w) P w K mg base n_room_line "Room.line" (defScope s_room_line) f cdv Ar outer s H E) rfl
  exact (pdss_one (pds_ret (pd_lcM rfl nd (pdi_any (pd_fld T.cl_Room T.no_waiting (pd_v 0))) (blkOk_by (own := [("one", 1)]) (N := n_room_line) (sc := defScope s_room_line) (by decide +kernel)) (fun _ _ _ _ _ => pg_name (i := 1) nd rfl (Or.inl rfl)) (fun _ _ _ _ _ => pdts_nil) (fun _ _ _ _ _ => (pd_tup (pda_cons (pd_ix hu (pd_v 1) pd_int) (pda_cons (pd_ix hu (pd_v 1) pd_int) pda_nil)))))))
abbrev s_room_asker : Stmt := inClass (topS 25) 12
abbrev n_room_asker : List Str := ["self"]
theorem sc_room_asker : FnScope n_room_asker ["self"] (defScope s_room_asker) := ⟨rfl, rfl, rfl, by decide +kernel, rfl, by decide +kernel, by decide +kernel⟩
theorem ok_room_asker {f : Addr} {fd : FuncData} (F : Fun K "asker" "Room.asker" s_room_asker f fd) (T : Txt K mg A)  : FnD P w K mg base 1 f fd ["self"] (m_room_asker A) := by
  refine DL.okD (N := n_room_asker) F sc_room_asker (len_room_asker A) (by decide) (fun cdv Ar outer s H E hr => ?_) (read_room_asker A)
  have hu := hu_of hr
  have hw := hr.units
  have nd := sc_room_asker.nd
  have tk : L2N.Takes (cxOf (L2N.CX P w) P w K mg base n_room_asker "Room.asker" (defScope s_room_asker) f cdv Ar outer s H E) (WE0 E) := L2N.takes_of rfl rfl rfl rfl
  have hp : PassesOwn (model P w) (Ar.deeper (envOfC "Room.asker" (defScope s_room_asker) s.heap.objs.size f cdv)) (envOfC "Room.asker" (defScope s_room_asker) s.heap.objs.size f cdv) (cxOf (L2N.CX P w) P w K mg base n_room_asker "Room.asker" (defScope s_room_asker) f cdv Ar outer s H E).xe := passes_of (X := cxOf (L2N.CX P w) P w K mg base n_room_asker "Room.asker" (defScope s_room_asker) f cdv Ar outer s H E) rfl
  exact (pdss_one (pds_ret (pd_fld T.cl_Room T.no_asking (pd_v 0))))
abbrev s_room_writer : Stmt := inClass (topS 25) 11
abbrev n_room_writer : List Str := ["self"]
theorem sc_room_writer : FnScope n_room_writer ["self"] (defScope s_room_writer) := ⟨rfl, rfl, rfl, by decide +kernel, rfl, by decide +kernel, by decide +kernel⟩
theorem ok_room_writer {f : Addr} {fd : FuncData} (F : Fun K "writer" "Room.writer" s_room_writer f fd) (T : Txt K mg A)  : FnD P w K mg base 1 f fd ["self"] (m_room_writer A) := by
  refine DL.okD (N := n_room_writer) F sc_room_writer (len_room_writer A) (by decide) (fun cdv Ar outer s H E hr => ?_) (read_room_writer A)
  have hu := hu_of hr
  have hw := hr.units
  have nd := sc_room_writer.nd
  have tk : L2N.Takes (cxOf (L2N.CX P w) P w K mg base n_room_writer "Room.writer" (defScope s_room_writer) f cdv Ar outer s H E) (WE0 E) := L2N.takes_of rfl rfl rfl rfl
  have hp : PassesOwn (model P w) (Ar.deeper (envOfC "Room.writer" (defScope s_room_writer) s.heap.objs.size f cdv)) (envOfC "Room.writer" (defScope s_room_writer) s.heap.objs.size f cdv) (cxOf (L2N.CX P w) P w K mg base n_room_writer "Room.writer" (defScope s_room_writer) f cdv Ar outer s H E).xe := passes_of (X := cxOf (L2N.CX P w) P w K mg base n_room_writer "Room.writer" (defScope s_room_writer) f cdv Ar outer s H E) rfl
  exact (pdss_one (pds_ret (pd_fld T.cl_Room T.no_alone (pd_v 0))))
abbrev s_room_readers : Stmt := inClass (topS 25) 10
abbrev n_room_readers : List Str := ["self"]
theorem sc_room_readers : FnScope n_room_readers ["self"] (defScope s_room_readers) := ⟨rfl, rfl, rfl, by decide +kernel, rfl, by decide +kernel, by decide +kernel⟩
theorem ok_room_readers {f : Addr} {fd : FuncData} (F : Fun K "readers" "Room.readers" s_room_readers f fd) (T : Txt K mg A)  : FnD P w K mg base 1 f fd ["self"] (m_room_readers A) := by
  refine DL.okD (N := n_room_readers) F sc_room_readers (len_room_readers A) (by decide) (fun cdv Ar outer s H E hr => ?_) (read_room_readers A)
  have hu := hu_of hr
  have hw := hr.units
  have nd := sc_room_readers.nd
  have tk : L2N.Takes (cxOf (L2N.CX P w) P w K mg base n_room_readers "Room.readers" (defScope s_room_readers) f cdv Ar outer s H E) (WE0 E) := L2N.takes_of rfl rfl rfl rfl
  have hp : PassesOwn (model P w) (Ar.deeper (envOfC "Room.readers" (defScope s_room_readers) s.heap.objs.size f cdv)) (envOfC "Room.readers" (defScope s_room_readers) s.heap.objs.size f cdv) (cxOf (L2N.CX P w) P w K mg base n_room_readers "Room.readers" (defScope s_room_readers) f cdv Ar outer s H E).xe := passes_of (X := cxOf (L2N.CX P w) P w K mg base n_room_readers "Room.readers" (defScope s_room_readers) f cdv Ar outer s H E) rfl
  exact (pdss_one (pds_ret (pd_callTy call_list_of l_listM rfl T.b_list (by decide +kernel) (pda_cons (pd_fld T.cl_Room T.no_reading (pd_v 0)) pda_nil))))
abbrev s_l_state : Stmt := topS 31
abbrev n_l_state : List Str := ["_law_room_here"]
theorem sc_l_state : FnScope n_l_state ["_law_room_here"] (defScope s_l_state) := ⟨rfl, rfl, rfl, by decide +kernel, rfl, by decide +kernel, by decide +kernel⟩
theorem ok_l_state {f : Addr} {fd : FuncData} (F : Fun K "_law_state" "_law_state" s_l_state f fd) (T : Txt K mg A) (h_room_journal : HasM P w K mg base A.Room "journal" ["self"] 1 (m_room_journal A)) (h_room_line : HasM P w K mg base A.Room "line" ["self"] 1 (m_room_line A)) (h_room_asker : HasM P w K mg base A.Room "asker" ["self"] 1 (m_room_asker A)) (h_room_writer : HasM P w K mg base A.Room "writer" ["self"] 1 (m_room_writer A)) (h_room_readers : HasM P w K mg base A.Room "readers" ["self"] 1 (m_room_readers A)) : FnD P w K mg base 2 f fd ["_law_room_here"] (m_l_state A) := by
  refine DL.okD (N := n_l_state) F sc_l_state (len_l_state A) (by decide) (fun cdv Ar outer s H E hr => ?_) (read_l_state A)
  have hu := hu_of hr
  have hw := hr.units
  have nd := sc_l_state.nd
  have tk : L2N.Takes (cxOf (L2N.CX P w) P w K mg base n_l_state "_law_state" (defScope s_l_state) f cdv Ar outer s H E) (WE0 E) := L2N.takes_of rfl rfl rfl rfl
  have hp : PassesOwn (model P w) (Ar.deeper (envOfC "_law_state" (defScope s_l_state) s.heap.objs.size f cdv)) (envOfC "_law_state" (defScope s_l_state) s.heap.objs.size f cdv) (cxOf (L2N.CX P w) P w K mg base n_l_state "_law_state" (defScope s_l_state) f cdv Ar outer s H E).xe := passes_of (X := cxOf (L2N.CX P w) P w K mg base n_l_state "_law_state" (defScope s_l_state) f cdv Ar outer s H E) rfl
  exact (pdss_one (pds_ret (pd_lst (pda_cons (pd_frz (pd_meth0H tk (pd_v 0) T.cl_Room h_room_readers (hr.mono (by decide)))) (pda_cons (pd_meth0H tk (pd_v 0) T.cl_Room h_room_writer (hr.mono (by decide))) (pda_cons (pd_meth0H tk (pd_v 0) T.cl_Room h_room_asker (hr.mono (by decide))) (pda_cons (pd_frz (pd_meth0H tk (pd_v 0) T.cl_Room h_room_line (hr.mono (by decide)))) (pda_cons (pd_frz (pd_meth0H tk (pd_v 0) T.cl_Room h_room_journal (hr.mono (by decide)))) (pda_cons (pd_fld T.cl_Room T.no_seats (pd_v 0)) (pda_cons (pd_fld T.cl_Room T.no_patience (pd_v 0)) pda_nil))))))))))
abbrev s_l_due : Stmt := topS 34
abbrev n_l_due : List Str := ["_law_way", "_law_deed", "_law_who", "_law_good", "_law_wished", "_law_inside", "_law_waits", "_law_writes"]
theorem sc_l_due : FnScope n_l_due ["_law_way", "_law_deed", "_law_who", "_law_good", "_law_wished"] (defScope s_l_due) := ⟨rfl, rfl, rfl, by decide +kernel, rfl, by decide +kernel, by decide +kernel⟩
theorem ok_l_due {f : Addr} {fd : FuncData} (F : Fun K "_law_due" "_law_due" s_l_due f fd) (T : Txt K mg A)  : FnD P w K mg base 1 f fd ["_law_way", "_law_deed", "_law_who", "_law_good", "_law_wished"] m_l_due := by
  refine DL.okD (N := n_l_due) F sc_l_due len_l_due (by decide) (fun cdv Ar outer s H E hr => ?_) read_l_due
  have hu := hu_of hr
  have hw := hr.units
  have nd := sc_l_due.nd
  have tk : L2N.Takes (cxOf (L2N.CX P w) P w K mg base n_l_due "_law_due" (defScope s_l_due) f cdv Ar outer s H E) (WE0 E) := L2N.takes_of rfl rfl rfl rfl
  have hp : PassesOwn (model P w) (Ar.deeper (envOfC "_law_due" (defScope s_l_due) s.heap.objs.size f cdv)) (envOfC "_law_due" (defScope s_l_due) s.heap.objs.size f cdv) (cxOf (L2N.CX P w) P w K mg base n_l_due "_law_due" (defScope s_l_due) f cdv Ar outer s H E).xe := passes_of (X := cxOf (L2N.CX P w) P w K mg base n_l_due "_law_due" (defScope s_l_due) f cdv Ar outer s H E) rfl
  exact (pdss_cons (pds_set (i := 5) nd rfl (Or.inl rfl) (pd_ix hu (pd_lst (pda_cons (pd_lst pda_nil) (pda_cons (pd_lst (pda_cons pd_int pda_nil)) (pda_cons (pd_lst (pda_cons pd_int pda_nil)) (pda_cons (pd_lst (pda_cons pd_int pda_nil)) (pda_cons (pd_lst (pda_cons pd_int pda_nil)) (pda_cons (pd_lst (pda_cons pd_int (pda_cons pd_int pda_nil))) (pda_cons (pd_lst (pda_cons pd_int (pda_cons pd_int pda_nil))) pda_nil)))))))) (pd_v 0)))
      (pdss_cons (pds_set (i := 6) nd rfl (Or.inl rfl) (pd_ix hu (pd_lst (pda_cons (pd_lst pda_nil) (pda_cons (pd_lst pda_nil) (pda_cons (pd_lst pda_nil) (pda_cons (pd_lst (pda_cons pd_int pda_nil)) (pda_cons (pd_lst (pda_cons pd_int pda_nil)) (pda_cons (pd_lst pda_nil) (pda_cons (pd_lst (pda_cons pd_int pda_nil)) pda_nil)))))))) (pd_v 0)))
      (pdss_cons (pds_if (pdt_eq hw (pd_v 1) pd_int) (pdss_cons (pds_if (pdt_not (pdt_val (pd_v 3))) (pdss_one (pds_ret pd_int)) pdss_nil)
      (pdss_cons (pds_if (pdt_not (pdt_val (pd_v 4))) (pdss_one (pds_ret pd_int)) pdss_nil)
      (pdss_one (pds_ret (pd_if (pdt_in (pd_v 2) (pd_add (pd_v 5) (pd_v 6))) pd_int (pd_neg pd_int)))))) pdss_nil)
      (pdss_cons (pds_if (pdt_w (pdw_or (pdt_not (pdt_val (pd_v 3))) (pdw_or1 (pdt_notIn (pd_v 2) (pd_add (pd_v 5) (pd_v 6)))))) (pdss_one (pds_ret pd_int)) pdss_nil)
      (pdss_cons (pds_if (pdt_eq hw (pd_v 1) pd_int) (pdss_one (pds_ret (pd_if (pdt_in (pd_v 2) (pd_v 5)) pd_int (pd_neg pd_int)))) pdss_nil)
      (pdss_cons (pds_if (pdt_eq hw (pd_v 1) pd_int) (pdss_one (pds_ret (pd_neg pd_int))) pdss_nil)
      (pdss_cons (pds_if (pdt_in (pd_v 2) (pd_v 6)) (pdss_one (pds_ret pd_int)) pdss_nil)
      (pdss_cons (pds_set (i := 7) nd rfl (Or.inl rfl) (pd_or (pd_eq hw (pd_v 0) pd_int) (pd_one (pd_eq hw (pd_v 0) pd_int))))
      (pdss_cons (pds_if (pdt_eq hw (pd_v 1) pd_int) (pdss_one (pds_ret (pd_if (pdt_val (pd_v 7)) (pd_neg pd_int) pd_int))) pdss_nil)
      (pdss_cons (pds_if (pdt_val (pd_v 7)) (pdss_one (pds_ret pd_int)) pdss_nil)
      (pdss_one (pds_ret (pd_if (pdt_gt (pd_v 0) pd_int) pd_int (pd_neg pd_int))))))))))))))
abbrev s_room_leave : Stmt := inClass (topS 25) 5
abbrev n_room_leave : List Str := ["self", "name", "one"]
theorem sc_room_leave : FnScope n_room_leave ["self", "name"] (defScope s_room_leave) := ⟨rfl, rfl, rfl, by decide +kernel, rfl, by decide +kernel, by decide +kernel⟩
theorem ok_room_leave {f : Addr} {fd : FuncData} (F : Fun K "leave" "Room.leave" s_room_leave f fd) (T : Txt K mg A) (h_room_look : HasM P w K mg base A.Room "look" ["self", "name"] 2 (m_room_look A)) (h_room_settled : HasM P w K mg base A.Room "settled" ["self", "row"] 4 (m_room_settled A)) : FnD P w K mg base 5 f fd ["self", "name"] (m_room_leave A) := by
  refine DL.okD (N := n_room_leave) F sc_room_leave (len_room_leave A) (by decide) (fun cdv Ar outer s H E hr => ?_) (read_room_leave A)
  have hu := hu_of hr
  have hw := hr.units
  have nd := sc_room_leave.nd
  have tk : L2N.Takes (cxOf (L2N.CX P w) P w K mg base n_room_leave "Room.leave" (defScope s_room_leave) f cdv Ar outer s H E) (WE0 E) := L2N.takes_of rfl rfl rfl rfl
  have hp : PassesOwn (model P w) (Ar.deeper (envOfC "Room.leave" (defScope s_room_leave) s.heap.objs.size f cdv)) (envOfC "Room.leave" (defScope s_room_leave) s.heap.objs.size f cdv) (cxOf (L2N.CX P w) P w K mg base n_room_leave "Room.leave" (defScope s_room_leave) f cdv Ar outer s H E).xe := passes_of (X := cxOf (L2N.CX P w) P w K mg base n_room_leave "Room.leave" (defScope s_room_leave) f cdv Ar outer s H E) rfl
  exact (pdss_cons (pds_expr (pd_methH tk (pd_v 0) T.cl_Room h_room_look (hr.mono (by decide)) (pda_cons (pd_v 1) pda_nil)))
      (pdss_cons (pds_fld T.cl_Room T.no_reading (pd_v 0) (pd_lc rfl nd (pdi_any (pd_fld T.cl_Room T.no_reading (pd_v 0))) (blkOk_by (own := [("one", 2)]) (N := n_room_leave) (sc := defScope s_room_leave) (by decide +kernel)) (fun _ _ _ _ _ => pg_name (i := 2) nd rfl (Or.inl rfl)) (fun _ _ _ _ _ => (pdts_one (pdt_ne hw (pd_v 2) (pd_v 1)))) (fun _ _ _ _ _ => (pd_v 2))))
      (pdss_cons (pds_fld T.cl_Room T.no_waiting (pd_v 0) (pd_lc rfl nd (pdi_any (pd_fld T.cl_Room T.no_waiting (pd_v 0))) (blkOk_by (own := [("one", 2)]) (N := n_room_leave) (sc := defScope s_room_leave) (by decide +kernel)) (fun _ _ _ _ _ => pg_name (i := 2) nd rfl (Or.inl rfl)) (fun _ _ _ _ _ => (pdts_one (pdt_ne hw (pd_ix hu (pd_v 2) pd_int) (pd_v 1)))) (fun _ _ _ _ _ => (pd_v 2))))
      (pdss_cons (pds_if (pdt_w (pdw_and (pdt_notN (pd_fld T.cl_Room T.no_alone (pd_v 0))) (pdw_and1 (pdt_eq hw (pd_fld T.cl_Room T.no_alone (pd_v 0)) (pd_v 1))))) (pdss_one (pds_fld T.cl_Room T.no_alone (pd_v 0) pd_non)) pdss_nil)
      (pdss_cons (pds_if (pdt_w (pdw_and (pdt_notN (pd_fld T.cl_Room T.no_asking (pd_v 0))) (pdw_and1 (pdt_eq hw (pd_fld T.cl_Room T.no_asking (pd_v 0)) (pd_v 1))))) (pdss_one (pds_fld T.cl_Room T.no_asking (pd_v 0) pd_non)) pdss_nil)
      (pdss_one (pds_ret (pd_methH tk (pd_v 0) T.cl_Room h_room_settled (hr.mono (by decide)) (pda_cons (pd_tup (pda_cons (pd_str (by decide +kernel)) (pda_cons (pd_v 1) pda_nil))) pda_nil)))))))))
abbrev s_room_ease : Stmt := inClass (topS 25) 7
abbrev n_room_ease : List Str := ["self", "name"]
theorem sc_room_ease : FnScope n_room_ease ["self", "name"] (defScope s_room_ease) := ⟨rfl, rfl, rfl, by decide +kernel, rfl, by decide +kernel, by decide +kernel⟩
theorem ok_room_ease {f : Addr} {fd : FuncData} (F : Fun K "ease" "Room.ease" s_room_ease f fd) (T : Txt K mg A) (h_room_look : HasM P w K mg base A.Room "look" ["self", "name"] 2 (m_room_look A)) (h_room_is_waiting : HasM P w K mg base A.Room "is_waiting" ["self", "name"] 1 (m_room_is_waiting A)) (h_room_settled : HasM P w K mg base A.Room "settled" ["self", "row"] 4 (m_room_settled A)) : FnD P w K mg base 5 f fd ["self", "name"] (m_room_ease A) := by
  refine DL.okD (N := n_room_ease) F sc_room_ease (len_room_ease A) (by decide) (fun cdv Ar outer s H E hr => ?_) (read_room_ease A)
  have hu := hu_of hr
  have hw := hr.units
  have nd := sc_room_ease.nd
  have tk : L2N.Takes (cxOf (L2N.CX P w) P w K mg base n_room_ease "Room.ease" (defScope s_room_ease) f cdv Ar outer s H E) (WE0 E) := L2N.takes_of rfl rfl rfl rfl
  have hp : PassesOwn (model P w) (Ar.deeper (envOfC "Room.ease" (defScope s_room_ease) s.heap.objs.size f cdv)) (envOfC "Room.ease" (defScope s_room_ease) s.heap.objs.size f cdv) (cxOf (L2N.CX P w) P w K mg base n_room_ease "Room.ease" (defScope s_room_ease) f cdv Ar outer s H E).xe := passes_of (X := cxOf (L2N.CX P w) P w K mg base n_room_ease "Room.ease" (defScope s_room_ease) f cdv Ar outer s H E) rfl
  exact (pdss_cons (pds_expr (pd_methH tk (pd_v 0) T.cl_Room h_room_look (hr.mono (by decide)) (pda_cons (pd_v 1) pda_nil)))
      (pdss_cons (pds_if (pdt_val (pd_methH tk (pd_v 0) T.cl_Room h_room_is_waiting (hr.mono (by decide)) (pda_cons (pd_v 1) pda_nil))) (pdss_one (pds_raise tk rfl PySem.F.excBase_ValueError T.x_Outside T.mg_Outside T.k_Outside (raises_own T.s_Outside T.t_Outside) rfl)) pdss_nil)
      (pdss_cons (pds_if (pdt_isN (pd_fld T.cl_Room T.no_alone (pd_v 0))) (pdss_one (pds_raise tk rfl PySem.F.excBase_ValueError T.x_Reads T.mg_Reads T.k_Reads (raises_own T.s_Reads T.t_Reads) rfl)) pdss_nil)
      (pdss_cons (pds_fld T.cl_Room T.no_alone (pd_v 0) pd_non)
      (pdss_cons (pds_fld T.cl_Room T.no_reading (pd_v 0) (pd_lst (pda_cons (pd_v 1) pda_nil)))
      (pdss_one (pds_ret (pd_methH tk (pd_v 0) T.cl_Room h_room_settled (hr.mono (by decide)) (pda_cons (pd_tup (pda_cons (pd_str (by decide +kernel)) (pda_cons (pd_v 1) pda_nil))) pda_nil)))))))))
abbrev s_room_passed : Stmt := inClass (topS 25) 14
abbrev n_room_passed : List Str := ["self", "name", "one"]
theorem sc_room_passed : FnScope n_room_passed ["self", "name"] (defScope s_room_passed) := ⟨rfl, rfl, rfl, by decide +kernel, rfl, by decide +kernel, by decide +kernel⟩
theorem ok_room_passed {f : Addr} {fd : FuncData} (F : Fun K "passed" "Room.passed" s_room_passed f fd) (T : Txt K mg A) (h_room_look : HasM P w K mg base A.Room "look" ["self", "name"] 2 (m_room_look A)) (h_room_is_inside : HasM P w K mg base A.Room "is_inside" ["self", "name"] 1 (m_room_is_inside A)) : FnD P w K mg base 3 f fd ["self", "name"] (m_room_passed A) := by
  refine DL.okD (N := n_room_passed) F sc_room_passed (len_room_passed A) (by decide) (fun cdv Ar outer s H E hr => ?_) (read_room_passed A)
  have hu := hu_of hr
  have hw := hr.units
  have nd := sc_room_passed.nd
  have tk : L2N.Takes (cxOf (L2N.CX P w) P w K mg base n_room_passed "Room.passed" (defScope s_room_passed) f cdv Ar outer s H E) (WE0 E) := L2N.takes_of rfl rfl rfl rfl
  have hp : PassesOwn (model P w) (Ar.deeper (envOfC "Room.passed" (defScope s_room_passed) s.heap.objs.size f cdv)) (envOfC "Room.passed" (defScope s_room_passed) s.heap.objs.size f cdv) (cxOf (L2N.CX P w) P w K mg base n_room_passed "Room.passed" (defScope s_room_passed) f cdv Ar outer s H E).xe := passes_of (X := cxOf (L2N.CX P w) P w K mg base n_room_passed "Room.passed" (defScope s_room_passed) f cdv Ar outer s H E) rfl
  exact (pdss_cons (pds_expr (pd_methH tk (pd_v 0) T.cl_Room h_room_look (hr.mono (by decide)) (pda_cons (pd_v 1) pda_nil)))
      (pdss_cons (pds_if (pdt_val (pd_methH tk (pd_v 0) T.cl_Room h_room_is_inside (hr.mono (by decide)) (pda_cons (pd_v 1) pda_nil))) (pdss_one (pds_raise tk rfl PySem.F.excBase_ValueError T.x_Inside T.mg_Inside T.k_Inside (raises_own T.s_Inside T.t_Inside) rfl)) pdss_nil)
      (pdss_one (pds_ret (pd_callB (cr_sum rfl) l_sum rfl T.b_sum (by decide +kernel) (pda_cons (pd_lc rfl nd (pdi_any (pd_fld T.cl_Room T.no_waiting (pd_v 0))) (blkOk_by (own := [("one", 2)]) (N := n_room_passed) (sc := defScope s_room_passed) (by decide +kernel)) (fun _ _ _ _ _ => pg_name (i := 2) nd rfl (Or.inl rfl)) (fun _ _ _ _ _ => (pdts_one (pdt_eq hw (pd_ix hu (pd_v 2) pd_int) (pd_v 1)))) (fun _ _ _ _ _ => (pd_ix hu (pd_v 2) pd_int))) pda_nil))))))
abbrev s_l_whole : Stmt := topS 28
abbrev n_l_whole : List Str := ["_law_found"]
theorem sc_l_whole : FnScope n_l_whole ["_law_found"] (defScope s_l_whole) := ⟨rfl, rfl, rfl, by decide +kernel, rfl, by decide +kernel, by decide +kernel⟩
theorem ok_l_whole {f : Addr} {fd : FuncData} (F : Fun K "_law_whole" "_law_whole" s_l_whole f fd) (T : Txt K mg A)  : FnD P w K mg base 1 f fd ["_law_found"] m_l_whole := by
  refine DL.okD (N := n_l_whole) F sc_l_whole len_l_whole (by decide) (fun cdv Ar outer s H E hr => ?_) read_l_whole
  have hu := hu_of hr
  have hw := hr.units
  have nd := sc_l_whole.nd
  have tk : L2N.Takes (cxOf (L2N.CX P w) P w K mg base n_l_whole "_law_whole" (defScope s_l_whole) f cdv Ar outer s H E) (WE0 E) := L2N.takes_of rfl rfl rfl rfl
  have hp : PassesOwn (model P w) (Ar.deeper (envOfC "_law_whole" (defScope s_l_whole) s.heap.objs.size f cdv)) (envOfC "_law_whole" (defScope s_l_whole) s.heap.objs.size f cdv) (cxOf (L2N.CX P w) P w K mg base n_l_whole "_law_whole" (defScope s_l_whole) f cdv Ar outer s H E).xe := passes_of (X := cxOf (L2N.CX P w) P w K mg base n_l_whole "_law_whole" (defScope s_l_whole) f cdv Ar outer s H E) rfl
  exact (pdss_one (pds_ret (pd_and (pd_callB call_isi l_isi rfl T.b_isinstance (by decide +kernel) (pda_cons (pd_v 0) (pda_cons (pd_bltn rfl T.b_int (by decide +kernel)) pda_nil))) (pd_one (pd_not (pd_callB call_isi l_isi rfl T.b_isinstance (by decide +kernel) (pda_cons (pd_v 0) (pda_cons (pd_bltn rfl T.b_bool (by decide +kernel)) pda_nil))))))))
abbrev s_l_kinds : Stmt := topS 32
abbrev n_l_kinds : List Str := ["_law_e", "_law_found", "_law_marks", "_law_k"]
theorem sc_l_kinds : FnScope n_l_kinds ["_law_e"] (defScope s_l_kinds) := ⟨rfl, rfl, rfl, by decide +kernel, rfl, by decide +kernel, by decide +kernel⟩
theorem ok_l_kinds {f : Addr} {fd : FuncData} (F : Fun K "_law_kinds" "_law_kinds" s_l_kinds f fd) (T : Txt K mg A)  : FnGD P w K mg base (fun _ => L2N.CX P w) 1 f fd ["_law_e"] (m_l_kinds K A) := by
  refine DL.okG (N := n_l_kinds) F sc_l_kinds (len_l_kinds K A) (by decide) (fun cdv Ar outer s H E ea ec l hot hr => ?_) (read_l_kinds K A)
  have hc : DL.HotX (cxG (L2N.CX P w) P w K mg base n_l_kinds "_law_kinds" (defScope s_l_kinds) f cdv Ar outer s H E l) ea ec := hot.x
  have hu := hu_ofG hr
  have hw := hw_ofG hr
  have nd := sc_l_kinds.nd
  have tk : L2N.Takes (cxG (L2N.CX P w) P w K mg base n_l_kinds "_law_kinds" (defScope s_l_kinds) f cdv Ar outer s H E l) (WE0 E) := L2N.takes_of rfl rfl rfl rfl
  have hp : PassesOwn (model P w) (Ar.deeper (envOfC "_law_kinds" (defScope s_l_kinds) s.heap.objs.size f cdv)) (envOfC "_law_kinds" (defScope s_l_kinds) s.heap.objs.size f cdv) (cxG (L2N.CX P w) P w K mg base n_l_kinds "_law_kinds" (defScope s_l_kinds) f cdv Ar outer s H E l).xe := passes_of (X := cxG (L2N.CX P w) P w K mg base n_l_kinds "_law_kinds" (defScope s_l_kinds) f cdv Ar outer s H E l) rfl
  exact (pdss_cons (pds_set (i := 1) nd rfl (Or.inl rfl) (pd_lstM pda_nil))
      (pdss_cons (pds_set (i := 2) nd rfl (Or.inl rfl) (pd_lstM (pda_cons (pd_callB (call_isEG hc) l_isE rfl T.b_isinstance (by decide +kernel) (pda_cons (pd_v 0) (pda_cons (pd_cls rfl T.mg_BadName) pda_nil))) (pda_cons (pd_callB (call_isEG hc) l_isE rfl T.b_isinstance (by decide +kernel) (pda_cons (pd_v 0) (pda_cons (pd_cls rfl T.mg_BadWish) pda_nil))) (pda_cons (pd_callB (call_isEG hc) l_isE rfl T.b_isinstance (by decide +kernel) (pda_cons (pd_v 0) (pda_cons (pd_cls rfl T.mg_Known) pda_nil))) (pda_cons (pd_callB (call_isEG hc) l_isE rfl T.b_isinstance (by decide +kernel) (pda_cons (pd_v 0) (pda_cons (pd_cls rfl T.mg_Stranger) pda_nil))) pda_nil))))))
      (pdss_cons (pds_set (i := 2) nd rfl (Or.inl rfl) (pd_addM (pd_v 2) (pd_lst (pda_cons (pd_callB (call_isEG hc) l_isE rfl T.b_isinstance (by decide +kernel) (pda_cons (pd_v 0) (pda_cons (pd_cls rfl T.mg_Outside) pda_nil))) (pda_cons (pd_callB (call_isEG hc) l_isE rfl T.b_isinstance (by decide +kernel) (pda_cons (pd_v 0) (pda_cons (pd_cls rfl T.mg_Inside) pda_nil))) (pda_cons (pd_callB (call_isEG hc) l_isE rfl T.b_isinstance (by decide +kernel) (pda_cons (pd_v 0) (pda_cons (pd_cls rfl T.mg_Reads) pda_nil))) (pda_cons (pd_callB (call_isEG hc) l_isE rfl T.b_isinstance (by decide +kernel) (pda_cons (pd_v 0) (pda_cons (pd_cls rfl T.mg_Writes) pda_nil))) pda_nil)))))))
      (pdss_cons (pds_set (i := 2) nd rfl (Or.inl rfl) (pd_addM (pd_v 2) (pd_lst (pda_cons (pd_callB (call_isEG hc) l_isE rfl T.b_isinstance (by decide +kernel) (pda_cons (pd_v 0) (pda_cons (pd_cls rfl T.mg_Asked) pda_nil))) (pda_cons (pd_callB (call_isEG hc) l_isE rfl T.b_isinstance (by decide +kernel) (pda_cons (pd_v 0) (pda_cons (pd_cls rfl T.mg_BadText) pda_nil))) (pda_cons (pd_callB (call_isEG hc) l_isE rfl T.b_isinstance (by decide +kernel) (pda_cons (pd_v 0) (pda_cons (pd_cls rfl T.mg_BadJournal) pda_nil))) pda_nil))))))
      (pdss_cons (pds_expr (pd_bmL PySem.F.plainAttrs_list PySem.F.slot_list_append PySem.F.type_list_append mt_append l_append (pd_v 2) (pda_cons (pd_callB (call_isEG hc) l_isE rfl T.b_isinstance (by decide +kernel) (pda_cons (pd_v 0) (pda_cons (pd_cls rfl T.mg_BadNumber) pda_nil))) pda_nil)))
      (pdss_cons (pds_forG hp hc (pdi_range1G rfl T.b_range (pda_cons (pd_callB call_len l_len rfl T.b_len (by decide +kernel) (pda_cons (pd_v 2) pda_nil)) pda_nil)) (pdg_name (i := 3) nd rfl (Or.inl rfl)) (pdss_one (pds_if (pdt_val (pd_ix hu (pd_v 2) (pd_v 3))) (pdss_one (pds_expr (pd_bmL PySem.F.plainAttrs_list PySem.F.slot_list_append PySem.F.type_list_append mt_append l_append (pd_v 1) (pda_cons (pd_v 3) pda_nil)))) pdss_nil)))
      (pdss_one (pds_ret (pd_frz (pd_v 1))))))))))
abbrev s_l_tried : Stmt := topS 33
abbrev n_l_tried : List Str := ["_law_room_here", "_law_deed", "_law_name", "_law_wish", "_law_e"]
theorem sc_l_tried : FnScope n_l_tried ["_law_room_here", "_law_deed", "_law_name", "_law_wish"] (defScope s_l_tried) := ⟨rfl, rfl, rfl, by decide +kernel, rfl, by decide +kernel, by decide +kernel⟩
theorem ok_l_tried {f : Addr} {fd : FuncData} (F : Fun K "_law_tried" "_law_tried" s_l_tried f fd) (T : Txt K mg A) (h_room_come : HasM P w K mg base A.Room "come" ["self", "name", "wish"] 5 (m_room_come A)) (h_room_leave : HasM P w K mg base A.Room "leave" ["self", "name"] 5 (m_room_leave A)) (h_room_ask : HasM P w K mg base A.Room "ask" ["self", "name"] 5 (m_room_ask A)) (h_room_ease : HasM P w K mg base A.Room "ease" ["self", "name"] 5 (m_room_ease A)) (h_room_passed : HasM P w K mg base A.Room "passed" ["self", "name"] 3 (m_room_passed A)) (h_l_whole : Has P w K mg base "_law_whole" ["_law_found"] 1 m_l_whole) (h_l_kinds : HasG P w K mg base (fun _ => L2N.CX P w) "_law_kinds" ["_law_e"] 1 (m_l_kinds K A)) : FnD P w K mg base 6 f fd ["_law_room_here", "_law_deed", "_law_name", "_law_wish"] (m_l_tried A) := by
  refine DL.okD (N := n_l_tried) F sc_l_tried (len_l_tried A) (by decide) (fun cdv Ar outer s H E hr => ?_) (read_l_tried K A (fun c => match c with | .name => T.e_BadName_RoomError | .wish => T.e_BadWish_RoomError | .known => T.e_Known_RoomError | .stranger => T.e_Stranger_RoomError | .outside => T.e_Outside_RoomError | .reads => T.e_Reads_RoomError | .writes => T.e_Writes_RoomError | .asked => T.e_Asked_RoomError) T.e_Inside_RoomError (kinds_T T) (kind_Inside T))
  have hu := hu_of hr
  have hw := hr.units
  have nd := sc_l_tried.nd
  have tk : L2N.Takes (cxOf (L2N.CX P w) P w K mg base n_l_tried "_law_tried" (defScope s_l_tried) f cdv Ar outer s H E) (WE0 E) := L2N.takes_of rfl rfl rfl rfl
  have hp : PassesOwn (model P w) (Ar.deeper (envOfC "_law_tried" (defScope s_l_tried) s.heap.objs.size f cdv)) (envOfC "_law_tried" (defScope s_l_tried) s.heap.objs.size f cdv) (cxOf (L2N.CX P w) P w K mg base n_l_tried "_law_tried" (defScope s_l_tried) f cdv Ar outer s H E).xe := passes_of (X := cxOf (L2N.CX P w) P w K mg base n_l_tried "_law_tried" (defScope s_l_tried) f cdv Ar outer s H E) rfl
  exact (pdss_cons (pds_tryAs (i := 4) rfl rfl nd rfl rfl ⟨rfl, by decide, .inl T.mg_RoomError⟩ tk (fun _ _ _ tk hp => (pdss_one (pds_if (pdt_eq hw (pd_v 1) pd_int) (pdss_one (pds_expr (pd_frz (pd_methH tk (pd_v 0) T.cl_Room h_room_come (hr.mono (by decide)) (pda_cons (pd_v 2) (pda_cons (pd_v 3) pda_nil)))))) (pdss_one (pds_if (pdt_eq hw (pd_v 1) pd_int) (pdss_one (pds_expr (pd_frz (pd_methH tk (pd_v 0) T.cl_Room h_room_leave (hr.mono (by decide)) (pda_cons (pd_v 2) pda_nil))))) (pdss_one (pds_if (pdt_eq hw (pd_v 1) pd_int) (pdss_one (pds_expr (pd_frz (pd_methH tk (pd_v 0) T.cl_Room h_room_ask (hr.mono (by decide)) (pda_cons (pd_v 2) pda_nil))))) (pdss_one (pds_if (pdt_eq hw (pd_v 1) pd_int) (pdss_one (pds_expr (pd_frz (pd_methH tk (pd_v 0) T.cl_Room h_room_ease (hr.mono (by decide)) (pda_cons (pd_v 2) pda_nil))))) (pdss_one (pds_ret (pd_lst (pda_cons (pd_sub (pd_neg pd_int) (pd_callTy call_int1 l_int1 rfl T.b_int (by decide +kernel) (pda_cons (pd_or (pd_not (pd_callH tk h_l_whole (hr.mono (by decide)) rfl (pda_cons (pd_methH tk (pd_v 0) T.cl_Room h_room_passed (hr.mono (by decide)) (pda_cons (pd_v 2) pda_nil)) pda_nil))) (pd_one (pd_ne hw (pd_methH tk (pd_v 0) T.cl_Room h_room_passed (hr.mono (by decide)) (pda_cons (pd_v 2) pda_nil)) pd_int))) pda_nil))) pda_nil))))))))))))) (fun ea ec oe pn hz hf => (pdss_cons (pds_if (pdt_not (pdt_val (pd_callB (call_isEA hz.zc hf) l_isE rfl T.b_isinstance (by decide +kernel) (pda_cons (pd_v 4) (pda_cons (pd_bltn rfl T.b_ValueError (by decide +kernel)) pda_nil))))) (pdss_one (pds_ret (pd_lst (pda_cons (pd_neg pd_int) pda_nil)))) pdss_nil)
      (pdss_one (pds_ret (pd_callG (hot_suite hz hf) h_l_kinds (roomH_mark (hr.mono (by decide)) _) (fun _ => passN0) rfl (pda_cons (pd_v 4) pda_nil)))))))
      (pdss_one (pds_ret (pd_lst (pda_cons (pd_neg pd_int) pda_nil)))))
abbrev s_law : Stmt := topS 37
abbrev n_law : List Str := ["_law_script", "_law_people_here", "_law_way", "_law_who", "_law_name", "_law_good", "_law_wish", "_law_deed", "_law_room_here", "_law_ahead", "_law_due_here"]
theorem sc_law : FnScope n_law ["_law_script"] (defScope s_law) := ⟨rfl, rfl, rfl, by decide +kernel, rfl, by decide +kernel, by decide +kernel⟩
theorem ok_law {f : Addr} {fd : FuncData} (F : Fun K "law" "law" s_law f fd) (T : Txt K mg A) (h_l_people : Has P w K mg base "_law_people" ["_law_cell", "_law_many"] 1 m_l_people) (h_l_cell_at : Has P w K mg base "_law_cell_at" ["_law_script", "_law_k"] 1 m_l_cell_at) (h_l_no_name : Has P w K mg base "_law_no_name" ["_law_cell", "_law_name"] 1 m_l_no_name) (h_l_no_wish : Has P w K mg base "_law_no_wish" ["_law_cell"] 1 m_l_no_wish) (h_l_room : Has P w K mg base "_law_room" ["_law_way", "_law_people_here"] 6 (m_l_room A)) (h_l_state : Has P w K mg base "_law_state" ["_law_room_here"] 2 (m_l_state A)) (h_l_due : Has P w K mg base "_law_due" ["_law_way", "_law_deed", "_law_who", "_law_good", "_law_wished"] 1 m_l_due) (h_l_tried : Has P w K mg base "_law_tried" ["_law_room_here", "_law_deed", "_law_name", "_law_wish"] 6 (m_l_tried A)) : FnD P w K mg base 7 f fd ["_law_script"] m_law := by
  refine DL.okD (N := n_law) F sc_law len_law (by decide) (fun cdv Ar outer s H E hr => ?_) (read_law A)
  have hu := hu_of hr
  have hw := hr.units
  have nd := sc_law.nd
  have tk : L2N.Takes (cxOf (L2N.CX P w) P w K mg base n_law "law" (defScope s_law) f cdv Ar outer s H E) (WE0 E) := L2N.takes_of rfl rfl rfl rfl
  have hp : PassesOwn (model P w) (Ar.deeper (envOfC "law" (defScope s_law) s.heap.objs.size f cdv)) (envOfC "law" (defScope s_law) s.heap.objs.size f cdv) (cxOf (L2N.CX P w) P w K mg base n_law "law" (defScope s_law) f cdv Ar outer s H E).xe := passes_of (X := cxOf (L2N.CX P w) P w K mg base n_law "law" (defScope s_law) f cdv Ar outer s H E) rfl
  exact (pdss_cons (pds_set (i := 1) nd rfl (Or.inl rfl) (pd_callH tk h_l_people (hr.mono (by decide)) rfl (pda_cons (pd_callH tk h_l_cell_at (hr.mono (by decide)) rfl (pda_cons (pd_v 0) (pda_cons pd_int pda_nil))) (pda_cons pd_int pda_nil))))
      (pdss_cons (pds_set (i := 2) nd rfl (Or.inl rfl) (pd_mod (pd_callH tk h_l_cell_at (hr.mono (by decide)) rfl (pda_cons (pd_v 0) (pda_cons pd_int pda_nil))) pd_int))
      (pdss_cons (pds_set (i := 3) nd rfl (Or.inl rfl) (pd_mod (pd_callH tk h_l_cell_at (hr.mono (by decide)) rfl (pda_cons (pd_v 0) (pda_cons pd_int pda_nil))) pd_int))
      (pdss_cons (pds_set (i := 4) nd rfl (Or.inl rfl) (pd_ix hu (pd_v 1) (pd_v 3)))
      (pdss_cons (pds_set (i := 5) nd rfl (Or.inl rfl) (pd_ne hw (pd_mod (pd_callH tk h_l_cell_at (hr.mono (by decide)) rfl (pda_cons (pd_v 0) (pda_cons pd_int pda_nil))) pd_int) pd_int))
      (pdss_cons (pds_if (pdt_not (pdt_val (pd_v 5))) (pdss_one (pds_set (i := 4) nd rfl (Or.inl rfl) (pd_callH tk h_l_no_name (hr.mono (by decide)) rfl (pda_cons (pd_div (pd_callH tk h_l_cell_at (hr.mono (by decide)) rfl (pda_cons (pd_v 0) (pda_cons pd_int pda_nil))) pd_int) (pda_cons (pd_ix hu (pd_v 1) pd_int) pda_nil))))) pdss_nil)
      (pdss_cons (pds_set (i := 6) nd rfl (Or.inl rfl) (pd_ix hu (pd_lst (pda_cons (pd_str (by decide +kernel)) (pda_cons (pd_str (by decide +kernel)) pda_nil))) (pd_mod (pd_callH tk h_l_cell_at (hr.mono (by decide)) rfl (pda_cons (pd_v 0) (pda_cons pd_int pda_nil))) pd_int)))
      (pdss_cons (pds_if (pdt_eq hw (pd_mod (pd_div (pd_callH tk h_l_cell_at (hr.mono (by decide)) rfl (pda_cons (pd_v 0) (pda_cons pd_int pda_nil))) pd_int) pd_int) pd_int) (pdss_one (pds_set (i := 6) nd rfl (Or.inl rfl) (pd_callH tk h_l_no_wish (hr.mono (by decide)) rfl (pda_cons (pd_div (pd_callH tk h_l_cell_at (hr.mono (by decide)) rfl (pda_cons (pd_v 0) (pda_cons pd_int pda_nil))) pd_int) pda_nil)))) pdss_nil)
      (pdss_cons (pds_for hp rfl (pdi_range1 rfl T.b_range (pda_cons pd_int pda_nil)) (pdg_name (i := 7) nd rfl (Or.inl rfl)) (pdss_cons (pds_set (i := 8) nd rfl (Or.inl rfl) (pd_callH tk h_l_room (hr.mono (by decide)) rfl (pda_cons (pd_v 2) (pda_cons (pd_v 1) pda_nil))))
      (pdss_cons (pds_set (i := 9) nd rfl (Or.inl rfl) (pd_callH tk h_l_state (hr.mono (by decide)) rfl (pda_cons (pd_v 8) pda_nil)))
      (pdss_cons (pds_set (i := 10) nd rfl (Or.inl rfl) (pd_callH tk h_l_due (hr.mono (by decide)) rfl (pda_cons (pd_v 2) (pda_cons (pd_v 7) (pda_cons (pd_v 3) (pda_cons (pd_v 5) (pda_cons (pd_eq hw (pd_mod (pd_div (pd_callH tk h_l_cell_at (hr.mono (by decide)) rfl (pda_cons (pd_v 0) (pda_cons pd_int pda_nil))) pd_int) pd_int) pd_int) pda_nil)))))))
      (pdss_cons (pds_if (pdt_ne hw (pd_callH tk h_l_tried (hr.mono (by decide)) rfl (pda_cons (pd_v 8) (pda_cons (pd_v 7) (pda_cons (pd_v 4) (pda_cons (pd_v 6) pda_nil))))) (pd_lst (pda_cons (pd_v 10) pda_nil))) (pdss_one (pds_ret pd_bl)) pdss_nil)
      (pdss_one (pds_if (pdt_w (pdw_and (pdt_ne hw (pd_v 10) (pd_neg pd_int)) (pdw_and1 (pdt_ne hw (pd_callH tk h_l_state (hr.mono (by decide)) rfl (pda_cons (pd_v 8) pda_nil)) (pd_v 9))))) (pdss_one (pds_ret pd_bl)) pdss_nil)))))))
      (pdss_one (pds_ret pd_bl)))))))))))
end
theorem all_mk {P : Program} {w : World} {K : PySem.W.Frag} {h : Heap} {mg : Str → Option Value} {fa : Addr} {CRoomError : Addr} {CBadName : Addr} {CBadWish : Addr} {CBadNumber : Addr} {CKnown : Addr} {CStranger : Addr} {COutside : Addr} {CInside : Addr} {CReads : Addr} {CWrites : Addr} {CAsked : Addr} {CBadText : Addr} {CBadJournal : Addr} {tk_LONGEST : Tok} {tk_MOST : Tok} {tk_SIGNS : Tok} {CRoom : Addr} {f_l_people : Addr} {oc_l_people kV_l_people dc_l_people pm_l_people cd_l_people ct_l_people : Value} {od_l_people an_l_people : Option Addr} {sl_l_people : Array (Option Value)} {f_l_cell_at : Addr} {oc_l_cell_at kV_l_cell_at dc_l_cell_at pm_l_cell_at cd_l_cell_at ct_l_cell_at : Value} {od_l_cell_at an_l_cell_at : Option Addr} {sl_l_cell_at : Array (Option Value)} {f_l_no_name : Addr} {oc_l_no_name kV_l_no_name dc_l_no_name pm_l_no_name cd_l_no_name ct_l_no_name : Value} {od_l_no_name an_l_no_name : Option Addr} {sl_l_no_name : Array (Option Value)} {f_l_no_wish : Addr} {oc_l_no_wish kV_l_no_wish dc_l_no_wish pm_l_no_wish cd_l_no_wish ct_l_no_wish : Value} {od_l_no_wish an_l_no_wish : Option Addr} {sl_l_no_wish : Array (Option Value)} {f_is_number : Addr} {oc_is_number kV_is_number dc_is_number pm_is_number cd_is_number ct_is_number : Value} {od_is_number an_is_number : Option Addr} {sl_is_number : Array (Option Value)} {f_room_init : Addr} {oc_room_init kV_room_init dc_room_init pm_room_init cd_room_init ct_room_init : Value} {od_room_init an_room_init : Option Addr} {sl_room_init : Array (Option Value)} {f_is_name : Addr} {oc_is_name kV_is_name dc_is_name pm_is_name cd_is_name ct_is_name : Value} {od_is_name an_is_name : Option Addr} {sl_is_name : Array (Option Value)} {f_is_wish : Addr} {oc_is_wish kV_is_wish dc_is_wish pm_is_wish cd_is_wish ct_is_wish : Value} {od_is_wish an_is_wish : Option Addr} {sl_is_wish : Array (Option Value)} {f_room_is_waiting : Addr} {oc_room_is_waiting kV_room_is_waiting dc_room_is_waiting pm_room_is_waiting cd_room_is_waiting ct_room_is_waiting : Value} {od_room_is_waiting an_room_is_waiting : Option Addr} {sl_room_is_waiting : Array (Option Value)} {f_room_is_inside : Addr} {oc_room_is_inside kV_room_is_inside dc_room_is_inside pm_room_is_inside cd_room_is_inside ct_room_is_inside : Value} {od_room_is_inside an_room_is_inside : Option Addr} {sl_room_is_inside : Array (Option Value)} {f_can_begin : Addr} {oc_can_begin kV_can_begin dc_can_begin pm_can_begin cd_can_begin ct_can_begin : Value} {od_can_begin an_can_begin : Option Addr} {sl_can_begin : Array (Option Value)} {f_first_reader : Addr} {oc_first_reader kV_first_reader dc_first_reader pm_first_reader cd_first_reader ct_first_reader : Value} {od_first_reader an_first_reader : Option Addr} {sl_first_reader : Array (Option Value)} {f_next_place : Addr} {oc_next_place kV_next_place dc_next_place pm_next_place cd_next_place ct_next_place : Value} {od_next_place an_next_place : Option Addr} {sl_next_place : Array (Option Value)} {f_room_begun : Addr} {oc_room_begun kV_room_begun dc_room_begun pm_room_begun cd_room_begun ct_room_begun : Value} {od_room_begun an_room_begun : Option Addr} {sl_room_begun : Array (Option Value)} {f_room_settled : Addr} {oc_room_settled kV_room_settled dc_room_settled pm_room_settled cd_room_settled ct_room_settled : Value} {od_room_settled an_room_settled : Option Addr} {sl_room_settled : Array (Option Value)} {f_room_come : Addr} {oc_room_come kV_room_come dc_room_come pm_room_come cd_room_come ct_room_come : Value} {od_room_come an_room_come : Option Addr} {sl_room_come : Array (Option Value)} {f_room_look : Addr} {oc_room_look kV_room_look dc_room_look pm_room_look cd_room_look ct_room_look : Value} {od_room_look an_room_look : Option Addr} {sl_room_look : Array (Option Value)} {f_room_ask : Addr} {oc_room_ask kV_room_ask dc_room_ask pm_room_ask cd_room_ask ct_room_ask : Value} {od_room_ask an_room_ask : Option Addr} {sl_room_ask : Array (Option Value)} {f_l_room : Addr} {oc_l_room kV_l_room dc_l_room pm_l_room cd_l_room ct_l_room : Value} {od_l_room an_l_room : Option Addr} {sl_l_room : Array (Option Value)} {f_room_journal : Addr} {oc_room_journal kV_room_journal dc_room_journal pm_room_journal cd_room_journal ct_room_journal : Value} {od_room_journal an_room_journal : Option Addr} {sl_room_journal : Array (Option Value)} {f_room_line : Addr} {oc_room_line kV_room_line dc_room_line pm_room_line cd_room_line ct_room_line : Value} {od_room_line an_room_line : Option Addr} {sl_room_line : Array (Option Value)} {f_room_asker : Addr} {oc_room_asker kV_room_asker dc_room_asker pm_room_asker cd_room_asker ct_room_asker : Value} {od_room_asker an_room_asker : Option Addr} {sl_room_asker : Array (Option Value)} {f_room_writer : Addr} {oc_room_writer kV_room_writer dc_room_writer pm_room_writer cd_room_writer ct_room_writer : Value} {od_room_writer an_room_writer : Option Addr} {sl_room_writer : Array (Option Value)} {f_room_readers : Addr} {oc_room_readers kV_room_readers dc_room_readers pm_room_readers cd_room_readers ct_room_readers : Value} {od_room_readers an_room_readers : Option Addr} {sl_room_readers : Array (Option Value)} {f_l_state : Addr} {oc_l_state kV_l_state dc_l_state pm_l_state cd_l_state ct_l_state : Value} {od_l_state an_l_state : Option Addr} {sl_l_state : Array (Option Value)} {f_l_due : Addr} {oc_l_due kV_l_due dc_l_due pm_l_due cd_l_due ct_l_due : Value} {od_l_due an_l_due : Option Addr} {sl_l_due : Array (Option Value)} {f_room_leave : Addr} {oc_room_leave kV_room_leave dc_room_leave pm_room_leave cd_room_leave ct_room_leave : Value} {od_room_leave an_room_leave : Option Addr} {sl_room_leave : Array (Option Value)} {f_room_ease : Addr} {oc_room_ease kV_room_ease dc_room_ease pm_room_ease cd_room_ease ct_room_ease : Value} {od_room_ease an_room_ease : Option Addr} {sl_room_ease : Array (Option Value)} {f_room_passed : Addr} {oc_room_passed kV_room_passed dc_room_passed pm_room_passed cd_room_passed ct_room_passed : Value} {od_room_passed an_room_passed : Option Addr} {sl_room_passed : Array (Option Value)} {f_l_whole : Addr} {oc_l_whole kV_l_whole dc_l_whole pm_l_whole cd_l_whole ct_l_whole : Value} {od_l_whole an_l_whole : Option Addr} {sl_l_whole : Array (Option Value)} {f_l_kinds : Addr} {oc_l_kinds kV_l_kinds dc_l_kinds pm_l_kinds cd_l_kinds ct_l_kinds : Value} {od_l_kinds an_l_kinds : Option Addr} {sl_l_kinds : Array (Option Value)} {f_l_tried : Addr} {oc_l_tried kV_l_tried dc_l_tried pm_l_tried cd_l_tried ct_l_tried : Value} {od_l_tried an_l_tried : Option Addr} {sl_l_tried : Array (Option Value)} {f_law : Addr} {oc_law kV_law dc_law pm_law cd_law ct_law : Value} {od_law an_law : Option Addr} {sl_law : Array (Option Value)} (X : K.In h) (G : h.Ns mainGlobals mg) (hfa : mg "law" = some (.ref fa))
    (aCRoomError : PySem.W.nsIn K mainGlobals "RoomError" = some (some (.ref CRoomError)))
    (aCBadName : PySem.W.nsIn K mainGlobals "BadName" = some (some (.ref CBadName)))
    (aCBadWish : PySem.W.nsIn K mainGlobals "BadWish" = some (some (.ref CBadWish)))
    (aCBadNumber : PySem.W.nsIn K mainGlobals "BadNumber" = some (some (.ref CBadNumber)))
    (aCKnown : PySem.W.nsIn K mainGlobals "Known" = some (some (.ref CKnown)))
    (aCStranger : PySem.W.nsIn K mainGlobals "Stranger" = some (some (.ref CStranger)))
    (aCOutside : PySem.W.nsIn K mainGlobals "Outside" = some (some (.ref COutside)))
    (aCInside : PySem.W.nsIn K mainGlobals "Inside" = some (some (.ref CInside)))
    (aCReads : PySem.W.nsIn K mainGlobals "Reads" = some (some (.ref CReads)))
    (aCWrites : PySem.W.nsIn K mainGlobals "Writes" = some (some (.ref CWrites)))
    (aCAsked : PySem.W.nsIn K mainGlobals "Asked" = some (some (.ref CAsked)))
    (aCBadText : PySem.W.nsIn K mainGlobals "BadText" = some (some (.ref CBadText)))
    (aCBadJournal : PySem.W.nsIn K mainGlobals "BadJournal" = some (some (.ref CBadJournal)))
    (x_BadName : PySem.W.excIn K CBadName [.type "ValueError", .type "Exception", .type "BaseException", .type "object"] "ValueError.__new__" = true)
    (k_BadName : PySem.W.keepIn K (.ref CBadName) = true)
    (s_BadName : PySem.W.subIn K (.ref CBadName) (.type "BaseException") = some true)
    (t_BadName : PySem.W.typeIn K (.ref CBadName) = some (.type "type"))
    (x_BadWish : PySem.W.excIn K CBadWish [.type "ValueError", .type "Exception", .type "BaseException", .type "object"] "ValueError.__new__" = true)
    (k_BadWish : PySem.W.keepIn K (.ref CBadWish) = true)
    (s_BadWish : PySem.W.subIn K (.ref CBadWish) (.type "BaseException") = some true)
    (t_BadWish : PySem.W.typeIn K (.ref CBadWish) = some (.type "type"))
    (x_BadNumber : PySem.W.excIn K CBadNumber [.type "ValueError", .type "Exception", .type "BaseException", .type "object"] "ValueError.__new__" = true)
    (k_BadNumber : PySem.W.keepIn K (.ref CBadNumber) = true)
    (s_BadNumber : PySem.W.subIn K (.ref CBadNumber) (.type "BaseException") = some true)
    (t_BadNumber : PySem.W.typeIn K (.ref CBadNumber) = some (.type "type"))
    (x_Known : PySem.W.excIn K CKnown [.type "ValueError", .type "Exception", .type "BaseException", .type "object"] "ValueError.__new__" = true)
    (k_Known : PySem.W.keepIn K (.ref CKnown) = true)
    (s_Known : PySem.W.subIn K (.ref CKnown) (.type "BaseException") = some true)
    (t_Known : PySem.W.typeIn K (.ref CKnown) = some (.type "type"))
    (x_Stranger : PySem.W.excIn K CStranger [.type "ValueError", .type "Exception", .type "BaseException", .type "object"] "ValueError.__new__" = true)
    (k_Stranger : PySem.W.keepIn K (.ref CStranger) = true)
    (s_Stranger : PySem.W.subIn K (.ref CStranger) (.type "BaseException") = some true)
    (t_Stranger : PySem.W.typeIn K (.ref CStranger) = some (.type "type"))
    (x_Outside : PySem.W.excIn K COutside [.type "ValueError", .type "Exception", .type "BaseException", .type "object"] "ValueError.__new__" = true)
    (k_Outside : PySem.W.keepIn K (.ref COutside) = true)
    (s_Outside : PySem.W.subIn K (.ref COutside) (.type "BaseException") = some true)
    (t_Outside : PySem.W.typeIn K (.ref COutside) = some (.type "type"))
    (x_Inside : PySem.W.excIn K CInside [.type "ValueError", .type "Exception", .type "BaseException", .type "object"] "ValueError.__new__" = true)
    (k_Inside : PySem.W.keepIn K (.ref CInside) = true)
    (s_Inside : PySem.W.subIn K (.ref CInside) (.type "BaseException") = some true)
    (t_Inside : PySem.W.typeIn K (.ref CInside) = some (.type "type"))
    (x_Reads : PySem.W.excIn K CReads [.type "ValueError", .type "Exception", .type "BaseException", .type "object"] "ValueError.__new__" = true)
    (k_Reads : PySem.W.keepIn K (.ref CReads) = true)
    (s_Reads : PySem.W.subIn K (.ref CReads) (.type "BaseException") = some true)
    (t_Reads : PySem.W.typeIn K (.ref CReads) = some (.type "type"))
    (x_Writes : PySem.W.excIn K CWrites [.type "ValueError", .type "Exception", .type "BaseException", .type "object"] "ValueError.__new__" = true)
    (k_Writes : PySem.W.keepIn K (.ref CWrites) = true)
    (s_Writes : PySem.W.subIn K (.ref CWrites) (.type "BaseException") = some true)
    (t_Writes : PySem.W.typeIn K (.ref CWrites) = some (.type "type"))
    (x_Asked : PySem.W.excIn K CAsked [.type "ValueError", .type "Exception", .type "BaseException", .type "object"] "ValueError.__new__" = true)
    (k_Asked : PySem.W.keepIn K (.ref CAsked) = true)
    (s_Asked : PySem.W.subIn K (.ref CAsked) (.type "BaseException") = some true)
    (t_Asked : PySem.W.typeIn K (.ref CAsked) = some (.type "type"))
    (e_BadName_RoomError : PySem.W.exmOne K (.ref CBadName) (.ref CRoomError) = some true)
    (e_BadWish_RoomError : PySem.W.exmOne K (.ref CBadWish) (.ref CRoomError) = some true)
    (e_BadNumber_RoomError : PySem.W.exmOne K (.ref CBadNumber) (.ref CRoomError) = some true)
    (e_Known_RoomError : PySem.W.exmOne K (.ref CKnown) (.ref CRoomError) = some true)
    (e_Stranger_RoomError : PySem.W.exmOne K (.ref CStranger) (.ref CRoomError) = some true)
    (e_Outside_RoomError : PySem.W.exmOne K (.ref COutside) (.ref CRoomError) = some true)
    (e_Inside_RoomError : PySem.W.exmOne K (.ref CInside) (.ref CRoomError) = some true)
    (e_Reads_RoomError : PySem.W.exmOne K (.ref CReads) (.ref CRoomError) = some true)
    (e_Writes_RoomError : PySem.W.exmOne K (.ref CWrites) (.ref CRoomError) = some true)
    (e_Asked_RoomError : PySem.W.exmOne K (.ref CAsked) (.ref CRoomError) = some true)
    (ecg_BadName : PySem.W.findIn K (.ref CBadName) "__getattribute__" = some (some (.builtin "BaseException.__getattribute__")))
    (eck_BadName : PySem.W.findIn K (.ref CBadName) "__getattr__" = some none)
    (ecs_BadName : PySem.W.subIn K (.ref CBadName) (.type "BaseException") = some true)
    (ecd_BadName : PySem.W.hasDictIn K CBadName = true)
    (eca_BadName : PySem.W.findIn K (.ref CBadName) "__class__" = some (some (.builtin "object.__class__")))
    (ecn_BadName : PySem.W.specialIn K (.builtin "object.__class__") "__get__" = some (some (.builtin "getset_descriptor.__get__")))
    (ect_BadName : PySem.W.takesIn K (.builtin "object.__class__") = some true)
    (ecm_BadName : PySem.W.mroIn K CBadName (.type "object") = some true)
    (i_BadName_BadName : PySem.W.kitOne K (.ref CBadName) (.ref CBadName) = some true)
    (i_BadName_BadWish : PySem.W.kitOne K (.ref CBadName) (.ref CBadWish) = some false)
    (i_BadName_BadNumber : PySem.W.kitOne K (.ref CBadName) (.ref CBadNumber) = some false)
    (i_BadName_Known : PySem.W.kitOne K (.ref CBadName) (.ref CKnown) = some false)
    (i_BadName_Stranger : PySem.W.kitOne K (.ref CBadName) (.ref CStranger) = some false)
    (i_BadName_Outside : PySem.W.kitOne K (.ref CBadName) (.ref COutside) = some false)
    (i_BadName_Inside : PySem.W.kitOne K (.ref CBadName) (.ref CInside) = some false)
    (i_BadName_Reads : PySem.W.kitOne K (.ref CBadName) (.ref CReads) = some false)
    (i_BadName_Writes : PySem.W.kitOne K (.ref CBadName) (.ref CWrites) = some false)
    (i_BadName_Asked : PySem.W.kitOne K (.ref CBadName) (.ref CAsked) = some false)
    (i_BadName_BadText : PySem.W.kitOne K (.ref CBadName) (.ref CBadText) = some false)
    (i_BadName_BadJournal : PySem.W.kitOne K (.ref CBadName) (.ref CBadJournal) = some false)
    (i_BadName_ValueError : PySem.W.kitOne K (.ref CBadName) (.type "ValueError") = some true)
    (ecg_BadWish : PySem.W.findIn K (.ref CBadWish) "__getattribute__" = some (some (.builtin "BaseException.__getattribute__")))
    (eck_BadWish : PySem.W.findIn K (.ref CBadWish) "__getattr__" = some none)
    (ecs_BadWish : PySem.W.subIn K (.ref CBadWish) (.type "BaseException") = some true)
    (ecd_BadWish : PySem.W.hasDictIn K CBadWish = true)
    (eca_BadWish : PySem.W.findIn K (.ref CBadWish) "__class__" = some (some (.builtin "object.__class__")))
    (ecn_BadWish : PySem.W.specialIn K (.builtin "object.__class__") "__get__" = some (some (.builtin "getset_descriptor.__get__")))
    (ect_BadWish : PySem.W.takesIn K (.builtin "object.__class__") = some true)
    (ecm_BadWish : PySem.W.mroIn K CBadWish (.type "object") = some true)
    (i_BadWish_BadName : PySem.W.kitOne K (.ref CBadWish) (.ref CBadName) = some false)
    (i_BadWish_BadWish : PySem.W.kitOne K (.ref CBadWish) (.ref CBadWish) = some true)
    (i_BadWish_BadNumber : PySem.W.kitOne K (.ref CBadWish) (.ref CBadNumber) = some false)
    (i_BadWish_Known : PySem.W.kitOne K (.ref CBadWish) (.ref CKnown) = some false)
    (i_BadWish_Stranger : PySem.W.kitOne K (.ref CBadWish) (.ref CStranger) = some false)
    (i_BadWish_Outside : PySem.W.kitOne K (.ref CBadWish) (.ref COutside) = some false)
    (i_BadWish_Inside : PySem.W.kitOne K (.ref CBadWish) (.ref CInside) = some false)
    (i_BadWish_Reads : PySem.W.kitOne K (.ref CBadWish) (.ref CReads) = some false)
    (i_BadWish_Writes : PySem.W.kitOne K (.ref CBadWish) (.ref CWrites) = some false)
    (i_BadWish_Asked : PySem.W.kitOne K (.ref CBadWish) (.ref CAsked) = some false)
    (i_BadWish_BadText : PySem.W.kitOne K (.ref CBadWish) (.ref CBadText) = some false)
    (i_BadWish_BadJournal : PySem.W.kitOne K (.ref CBadWish) (.ref CBadJournal) = some false)
    (i_BadWish_ValueError : PySem.W.kitOne K (.ref CBadWish) (.type "ValueError") = some true)
    (ecg_Known : PySem.W.findIn K (.ref CKnown) "__getattribute__" = some (some (.builtin "BaseException.__getattribute__")))
    (eck_Known : PySem.W.findIn K (.ref CKnown) "__getattr__" = some none)
    (ecs_Known : PySem.W.subIn K (.ref CKnown) (.type "BaseException") = some true)
    (ecd_Known : PySem.W.hasDictIn K CKnown = true)
    (eca_Known : PySem.W.findIn K (.ref CKnown) "__class__" = some (some (.builtin "object.__class__")))
    (ecn_Known : PySem.W.specialIn K (.builtin "object.__class__") "__get__" = some (some (.builtin "getset_descriptor.__get__")))
    (ect_Known : PySem.W.takesIn K (.builtin "object.__class__") = some true)
    (ecm_Known : PySem.W.mroIn K CKnown (.type "object") = some true)
    (i_Known_BadName : PySem.W.kitOne K (.ref CKnown) (.ref CBadName) = some false)
    (i_Known_BadWish : PySem.W.kitOne K (.ref CKnown) (.ref CBadWish) = some false)
    (i_Known_BadNumber : PySem.W.kitOne K (.ref CKnown) (.ref CBadNumber) = some false)
    (i_Known_Known : PySem.W.kitOne K (.ref CKnown) (.ref CKnown) = some true)
    (i_Known_Stranger : PySem.W.kitOne K (.ref CKnown) (.ref CStranger) = some false)
    (i_Known_Outside : PySem.W.kitOne K (.ref CKnown) (.ref COutside) = some false)
    (i_Known_Inside : PySem.W.kitOne K (.ref CKnown) (.ref CInside) = some false)
    (i_Known_Reads : PySem.W.kitOne K (.ref CKnown) (.ref CReads) = some false)
    (i_Known_Writes : PySem.W.kitOne K (.ref CKnown) (.ref CWrites) = some false)
    (i_Known_Asked : PySem.W.kitOne K (.ref CKnown) (.ref CAsked) = some false)
    (i_Known_BadText : PySem.W.kitOne K (.ref CKnown) (.ref CBadText) = some false)
    (i_Known_BadJournal : PySem.W.kitOne K (.ref CKnown) (.ref CBadJournal) = some false)
    (i_Known_ValueError : PySem.W.kitOne K (.ref CKnown) (.type "ValueError") = some true)
    (ecg_Stranger : PySem.W.findIn K (.ref CStranger) "__getattribute__" = some (some (.builtin "BaseException.__getattribute__")))
    (eck_Stranger : PySem.W.findIn K (.ref CStranger) "__getattr__" = some none)
    (ecs_Stranger : PySem.W.subIn K (.ref CStranger) (.type "BaseException") = some true)
    (ecd_Stranger : PySem.W.hasDictIn K CStranger = true)
    (eca_Stranger : PySem.W.findIn K (.ref CStranger) "__class__" = some (some (.builtin "object.__class__")))
    (ecn_Stranger : PySem.W.specialIn K (.builtin "object.__class__") "__get__" = some (some (.builtin "getset_descriptor.__get__")))
    (ect_Stranger : PySem.W.takesIn K (.builtin "object.__class__") = some true)
    (ecm_Stranger : PySem.W.mroIn K CStranger (.type "object") = some true)
    (i_Stranger_BadName : PySem.W.kitOne K (.ref CStranger) (.ref CBadName) = some false)
    (i_Stranger_BadWish : PySem.W.kitOne K (.ref CStranger) (.ref CBadWish) = some false)
    (i_Stranger_BadNumber : PySem.W.kitOne K (.ref CStranger) (.ref CBadNumber) = some false)
    (i_Stranger_Known : PySem.W.kitOne K (.ref CStranger) (.ref CKnown) = some false)
    (i_Stranger_Stranger : PySem.W.kitOne K (.ref CStranger) (.ref CStranger) = some true)
    (i_Stranger_Outside : PySem.W.kitOne K (.ref CStranger) (.ref COutside) = some false)
    (i_Stranger_Inside : PySem.W.kitOne K (.ref CStranger) (.ref CInside) = some false)
    (i_Stranger_Reads : PySem.W.kitOne K (.ref CStranger) (.ref CReads) = some false)
    (i_Stranger_Writes : PySem.W.kitOne K (.ref CStranger) (.ref CWrites) = some false)
    (i_Stranger_Asked : PySem.W.kitOne K (.ref CStranger) (.ref CAsked) = some false)
    (i_Stranger_BadText : PySem.W.kitOne K (.ref CStranger) (.ref CBadText) = some false)
    (i_Stranger_BadJournal : PySem.W.kitOne K (.ref CStranger) (.ref CBadJournal) = some false)
    (i_Stranger_ValueError : PySem.W.kitOne K (.ref CStranger) (.type "ValueError") = some true)
    (ecg_Outside : PySem.W.findIn K (.ref COutside) "__getattribute__" = some (some (.builtin "BaseException.__getattribute__")))
    (eck_Outside : PySem.W.findIn K (.ref COutside) "__getattr__" = some none)
    (ecs_Outside : PySem.W.subIn K (.ref COutside) (.type "BaseException") = some true)
    (ecd_Outside : PySem.W.hasDictIn K COutside = true)
    (eca_Outside : PySem.W.findIn K (.ref COutside) "__class__" = some (some (.builtin "object.__class__")))
    (ecn_Outside : PySem.W.specialIn K (.builtin "object.__class__") "__get__" = some (some (.builtin "getset_descriptor.__get__")))
    (ect_Outside : PySem.W.takesIn K (.builtin "object.__class__") = some true)
    (ecm_Outside : PySem.W.mroIn K COutside (.type "object") = some true)
    (i_Outside_BadName : PySem.W.kitOne K (.ref COutside) (.ref CBadName) = some false)
    (i_Outside_BadWish : PySem.W.kitOne K (.ref COutside) (.ref CBadWish) = some false)
    (i_Outside_BadNumber : PySem.W.kitOne K (.ref COutside) (.ref CBadNumber) = some false)
    (i_Outside_Known : PySem.W.kitOne K (.ref COutside) (.ref CKnown) = some false)
    (i_Outside_Stranger : PySem.W.kitOne K (.ref COutside) (.ref CStranger) = some false)
    (i_Outside_Outside : PySem.W.kitOne K (.ref COutside) (.ref COutside) = some true)
    (i_Outside_Inside : PySem.W.kitOne K (.ref COutside) (.ref CInside) = some false)
    (i_Outside_Reads : PySem.W.kitOne K (.ref COutside) (.ref CReads) = some false)
    (i_Outside_Writes : PySem.W.kitOne K (.ref COutside) (.ref CWrites) = some false)
    (i_Outside_Asked : PySem.W.kitOne K (.ref COutside) (.ref CAsked) = some false)
    (i_Outside_BadText : PySem.W.kitOne K (.ref COutside) (.ref CBadText) = some false)
    (i_Outside_BadJournal : PySem.W.kitOne K (.ref COutside) (.ref CBadJournal) = some false)
    (i_Outside_ValueError : PySem.W.kitOne K (.ref COutside) (.type "ValueError") = some true)
    (ecg_Inside : PySem.W.findIn K (.ref CInside) "__getattribute__" = some (some (.builtin "BaseException.__getattribute__")))
    (eck_Inside : PySem.W.findIn K (.ref CInside) "__getattr__" = some none)
    (ecs_Inside : PySem.W.subIn K (.ref CInside) (.type "BaseException") = some true)
    (ecd_Inside : PySem.W.hasDictIn K CInside = true)
    (eca_Inside : PySem.W.findIn K (.ref CInside) "__class__" = some (some (.builtin "object.__class__")))
    (ecn_Inside : PySem.W.specialIn K (.builtin "object.__class__") "__get__" = some (some (.builtin "getset_descriptor.__get__")))
    (ect_Inside : PySem.W.takesIn K (.builtin "object.__class__") = some true)
    (ecm_Inside : PySem.W.mroIn K CInside (.type "object") = some true)
    (i_Inside_BadName : PySem.W.kitOne K (.ref CInside) (.ref CBadName) = some false)
    (i_Inside_BadWish : PySem.W.kitOne K (.ref CInside) (.ref CBadWish) = some false)
    (i_Inside_BadNumber : PySem.W.kitOne K (.ref CInside) (.ref CBadNumber) = some false)
    (i_Inside_Known : PySem.W.kitOne K (.ref CInside) (.ref CKnown) = some false)
    (i_Inside_Stranger : PySem.W.kitOne K (.ref CInside) (.ref CStranger) = some false)
    (i_Inside_Outside : PySem.W.kitOne K (.ref CInside) (.ref COutside) = some false)
    (i_Inside_Inside : PySem.W.kitOne K (.ref CInside) (.ref CInside) = some true)
    (i_Inside_Reads : PySem.W.kitOne K (.ref CInside) (.ref CReads) = some false)
    (i_Inside_Writes : PySem.W.kitOne K (.ref CInside) (.ref CWrites) = some false)
    (i_Inside_Asked : PySem.W.kitOne K (.ref CInside) (.ref CAsked) = some false)
    (i_Inside_BadText : PySem.W.kitOne K (.ref CInside) (.ref CBadText) = some false)
    (i_Inside_BadJournal : PySem.W.kitOne K (.ref CInside) (.ref CBadJournal) = some false)
    (i_Inside_ValueError : PySem.W.kitOne K (.ref CInside) (.type "ValueError") = some true)
    (ecg_Reads : PySem.W.findIn K (.ref CReads) "__getattribute__" = some (some (.builtin "BaseException.__getattribute__")))
    (eck_Reads : PySem.W.findIn K (.ref CReads) "__getattr__" = some none)
    (ecs_Reads : PySem.W.subIn K (.ref CReads) (.type "BaseException") = some true)
    (ecd_Reads : PySem.W.hasDictIn K CReads = true)
    (eca_Reads : PySem.W.findIn K (.ref CReads) "__class__" = some (some (.builtin "object.__class__")))
    (ecn_Reads : PySem.W.specialIn K (.builtin "object.__class__") "__get__" = some (some (.builtin "getset_descriptor.__get__")))
    (ect_Reads : PySem.W.takesIn K (.builtin "object.__class__") = some true)
    (ecm_Reads : PySem.W.mroIn K CReads (.type "object") = some true)
    (i_Reads_BadName : PySem.W.kitOne K (.ref CReads) (.ref CBadName) = some false)
    (i_Reads_BadWish : PySem.W.kitOne K (.ref CReads) (.ref CBadWish) = some false)
    (i_Reads_BadNumber : PySem.W.kitOne K (.ref CReads) (.ref CBadNumber) = some false)
    (i_Reads_Known : PySem.W.kitOne K (.ref CReads) (.ref CKnown) = some false)
    (i_Reads_Stranger : PySem.W.kitOne K (.ref CReads) (.ref CStranger) = some false)
    (i_Reads_Outside : PySem.W.kitOne K (.ref CReads) (.ref COutside) = some false)
    (i_Reads_Inside : PySem.W.kitOne K (.ref CReads) (.ref CInside) = some false)
    (i_Reads_Reads : PySem.W.kitOne K (.ref CReads) (.ref CReads) = some true)
    (i_Reads_Writes : PySem.W.kitOne K (.ref CReads) (.ref CWrites) = some false)
    (i_Reads_Asked : PySem.W.kitOne K (.ref CReads) (.ref CAsked) = some false)
    (i_Reads_BadText : PySem.W.kitOne K (.ref CReads) (.ref CBadText) = some false)
    (i_Reads_BadJournal : PySem.W.kitOne K (.ref CReads) (.ref CBadJournal) = some false)
    (i_Reads_ValueError : PySem.W.kitOne K (.ref CReads) (.type "ValueError") = some true)
    (ecg_Writes : PySem.W.findIn K (.ref CWrites) "__getattribute__" = some (some (.builtin "BaseException.__getattribute__")))
    (eck_Writes : PySem.W.findIn K (.ref CWrites) "__getattr__" = some none)
    (ecs_Writes : PySem.W.subIn K (.ref CWrites) (.type "BaseException") = some true)
    (ecd_Writes : PySem.W.hasDictIn K CWrites = true)
    (eca_Writes : PySem.W.findIn K (.ref CWrites) "__class__" = some (some (.builtin "object.__class__")))
    (ecn_Writes : PySem.W.specialIn K (.builtin "object.__class__") "__get__" = some (some (.builtin "getset_descriptor.__get__")))
    (ect_Writes : PySem.W.takesIn K (.builtin "object.__class__") = some true)
    (ecm_Writes : PySem.W.mroIn K CWrites (.type "object") = some true)
    (i_Writes_BadName : PySem.W.kitOne K (.ref CWrites) (.ref CBadName) = some false)
    (i_Writes_BadWish : PySem.W.kitOne K (.ref CWrites) (.ref CBadWish) = some false)
    (i_Writes_BadNumber : PySem.W.kitOne K (.ref CWrites) (.ref CBadNumber) = some false)
    (i_Writes_Known : PySem.W.kitOne K (.ref CWrites) (.ref CKnown) = some false)
    (i_Writes_Stranger : PySem.W.kitOne K (.ref CWrites) (.ref CStranger) = some false)
    (i_Writes_Outside : PySem.W.kitOne K (.ref CWrites) (.ref COutside) = some false)
    (i_Writes_Inside : PySem.W.kitOne K (.ref CWrites) (.ref CInside) = some false)
    (i_Writes_Reads : PySem.W.kitOne K (.ref CWrites) (.ref CReads) = some false)
    (i_Writes_Writes : PySem.W.kitOne K (.ref CWrites) (.ref CWrites) = some true)
    (i_Writes_Asked : PySem.W.kitOne K (.ref CWrites) (.ref CAsked) = some false)
    (i_Writes_BadText : PySem.W.kitOne K (.ref CWrites) (.ref CBadText) = some false)
    (i_Writes_BadJournal : PySem.W.kitOne K (.ref CWrites) (.ref CBadJournal) = some false)
    (i_Writes_ValueError : PySem.W.kitOne K (.ref CWrites) (.type "ValueError") = some true)
    (ecg_Asked : PySem.W.findIn K (.ref CAsked) "__getattribute__" = some (some (.builtin "BaseException.__getattribute__")))
    (eck_Asked : PySem.W.findIn K (.ref CAsked) "__getattr__" = some none)
    (ecs_Asked : PySem.W.subIn K (.ref CAsked) (.type "BaseException") = some true)
    (ecd_Asked : PySem.W.hasDictIn K CAsked = true)
    (eca_Asked : PySem.W.findIn K (.ref CAsked) "__class__" = some (some (.builtin "object.__class__")))
    (ecn_Asked : PySem.W.specialIn K (.builtin "object.__class__") "__get__" = some (some (.builtin "getset_descriptor.__get__")))
    (ect_Asked : PySem.W.takesIn K (.builtin "object.__class__") = some true)
    (ecm_Asked : PySem.W.mroIn K CAsked (.type "object") = some true)
    (i_Asked_BadName : PySem.W.kitOne K (.ref CAsked) (.ref CBadName) = some false)
    (i_Asked_BadWish : PySem.W.kitOne K (.ref CAsked) (.ref CBadWish) = some false)
    (i_Asked_BadNumber : PySem.W.kitOne K (.ref CAsked) (.ref CBadNumber) = some false)
    (i_Asked_Known : PySem.W.kitOne K (.ref CAsked) (.ref CKnown) = some false)
    (i_Asked_Stranger : PySem.W.kitOne K (.ref CAsked) (.ref CStranger) = some false)
    (i_Asked_Outside : PySem.W.kitOne K (.ref CAsked) (.ref COutside) = some false)
    (i_Asked_Inside : PySem.W.kitOne K (.ref CAsked) (.ref CInside) = some false)
    (i_Asked_Reads : PySem.W.kitOne K (.ref CAsked) (.ref CReads) = some false)
    (i_Asked_Writes : PySem.W.kitOne K (.ref CAsked) (.ref CWrites) = some false)
    (i_Asked_Asked : PySem.W.kitOne K (.ref CAsked) (.ref CAsked) = some true)
    (i_Asked_BadText : PySem.W.kitOne K (.ref CAsked) (.ref CBadText) = some false)
    (i_Asked_BadJournal : PySem.W.kitOne K (.ref CAsked) (.ref CBadJournal) = some false)
    (i_Asked_ValueError : PySem.W.kitOne K (.ref CAsked) (.type "ValueError") = some true)
    (z_ValueError : PySem.W.nsIn K mainGlobals "ValueError" = some none)
    (z_bool : PySem.W.nsIn K mainGlobals "bool" = some none)
    (z_enumerate : PySem.W.nsIn K mainGlobals "enumerate" = some none)
    (z_int : PySem.W.nsIn K mainGlobals "int" = some none)
    (z_isinstance : PySem.W.nsIn K mainGlobals "isinstance" = some none)
    (z_len : PySem.W.nsIn K mainGlobals "len" = some none)
    (z_list : PySem.W.nsIn K mainGlobals "list" = some none)
    (z_range : PySem.W.nsIn K mainGlobals "range" = some none)
    (z_str : PySem.W.nsIn K mainGlobals "str" = some none)
    (z_sum : PySem.W.nsIn K mainGlobals "sum" = some none)
    (v_LONGEST : PySem.W.nsIn K mainGlobals "LONGEST" = some (some (.int 12 tk_LONGEST)))
    (v_MOST : PySem.W.nsIn K mainGlobals "MOST" = some (some (.int 1000000000 tk_MOST)))
    (v_SIGNS : PySem.W.nsIn K mainGlobals "SIGNS" = some (some (.str "abcdefghijklmnopqrstuvwxyz0123456789" tk_SIGNS)))
    (aCRoom : PySem.W.nsIn K mainGlobals "Room" = some (some (.ref CRoom)))
    (pg : PySem.W.plainGet K CRoom Str.empty = true)
    (hd : PySem.W.hasDictIn K CRoom = true)
    (po : PySem.W.plainOver K CRoom = true)
    (sa : PySem.W.findIn K (.ref CRoom) "__setattr__" = some (some (.builtin "object.__setattr__")))
    (mk : PySem.W.makesIn K CRoom = true)
    (kc : PySem.W.keepIn K (.ref CRoom) = true)
    (no_alone : PySem.W.findIn K (.ref CRoom) "alone" = some none)
    (no_asking : PySem.W.findIn K (.ref CRoom) "asking" = some none)
    (no_patience : PySem.W.findIn K (.ref CRoom) "patience" = some none)
    (no_reading : PySem.W.findIn K (.ref CRoom) "reading" = some none)
    (no_rows : PySem.W.findIn K (.ref CRoom) "rows" = some none)
    (no_seats : PySem.W.findIn K (.ref CRoom) "seats" = some none)
    (no_waiting : PySem.W.findIn K (.ref CRoom) "waiting" = some none)
    (a_l_people : PySem.W.nsIn K mainGlobals "_law_people" = some (some (.ref f_l_people)))
    (l_l_people : K.lookup f_l_people = some ⟨oc_l_people, od_l_people, .func (PySem.W.fnOf "_law_people" "_law_people" (defArgs s_l_people) (defBody s_l_people) (defScope s_l_people) .none kV_l_people dc_l_people pm_l_people an_l_people cd_l_people ct_l_people), sl_l_people⟩)
    (c_l_people : PySem.W.codeIn K cd_l_people "_law_people" = true)
    (kf_l_people : PySem.W.keepIn K (.ref f_l_people) = true)
    (a_l_cell_at : PySem.W.nsIn K mainGlobals "_law_cell_at" = some (some (.ref f_l_cell_at)))
    (l_l_cell_at : K.lookup f_l_cell_at = some ⟨oc_l_cell_at, od_l_cell_at, .func (PySem.W.fnOf "_law_cell_at" "_law_cell_at" (defArgs s_l_cell_at) (defBody s_l_cell_at) (defScope s_l_cell_at) .none kV_l_cell_at dc_l_cell_at pm_l_cell_at an_l_cell_at cd_l_cell_at ct_l_cell_at), sl_l_cell_at⟩)
    (c_l_cell_at : PySem.W.codeIn K cd_l_cell_at "_law_cell_at" = true)
    (kf_l_cell_at : PySem.W.keepIn K (.ref f_l_cell_at) = true)
    (a_l_no_name : PySem.W.nsIn K mainGlobals "_law_no_name" = some (some (.ref f_l_no_name)))
    (l_l_no_name : K.lookup f_l_no_name = some ⟨oc_l_no_name, od_l_no_name, .func (PySem.W.fnOf "_law_no_name" "_law_no_name" (defArgs s_l_no_name) (defBody s_l_no_name) (defScope s_l_no_name) .none kV_l_no_name dc_l_no_name pm_l_no_name an_l_no_name cd_l_no_name ct_l_no_name), sl_l_no_name⟩)
    (c_l_no_name : PySem.W.codeIn K cd_l_no_name "_law_no_name" = true)
    (kf_l_no_name : PySem.W.keepIn K (.ref f_l_no_name) = true)
    (a_l_no_wish : PySem.W.nsIn K mainGlobals "_law_no_wish" = some (some (.ref f_l_no_wish)))
    (l_l_no_wish : K.lookup f_l_no_wish = some ⟨oc_l_no_wish, od_l_no_wish, .func (PySem.W.fnOf "_law_no_wish" "_law_no_wish" (defArgs s_l_no_wish) (defBody s_l_no_wish) (defScope s_l_no_wish) .none kV_l_no_wish dc_l_no_wish pm_l_no_wish an_l_no_wish cd_l_no_wish ct_l_no_wish), sl_l_no_wish⟩)
    (c_l_no_wish : PySem.W.codeIn K cd_l_no_wish "_law_no_wish" = true)
    (kf_l_no_wish : PySem.W.keepIn K (.ref f_l_no_wish) = true)
    (a_is_number : PySem.W.nsIn K mainGlobals "is_number" = some (some (.ref f_is_number)))
    (l_is_number : K.lookup f_is_number = some ⟨oc_is_number, od_is_number, .func (PySem.W.fnOf "is_number" "is_number" (defArgs s_is_number) (defBody s_is_number) (defScope s_is_number) .none kV_is_number dc_is_number pm_is_number an_is_number cd_is_number ct_is_number), sl_is_number⟩)
    (c_is_number : PySem.W.codeIn K cd_is_number "is_number" = true)
    (kf_is_number : PySem.W.keepIn K (.ref f_is_number) = true)
    (a_room_init : PySem.W.findIn K (.ref CRoom) "__init__" = some (some (.ref f_room_init)))
    (i_room_init : PySem.W.isFn K (.ref f_room_init) = true)
    (l_room_init : K.lookup f_room_init = some ⟨oc_room_init, od_room_init, .func (PySem.W.fnOf "__init__" "Room.__init__" (defArgs s_room_init) (defBody s_room_init) (defScope s_room_init) .none kV_room_init dc_room_init pm_room_init an_room_init cd_room_init ct_room_init), sl_room_init⟩)
    (c_room_init : PySem.W.codeIn K cd_room_init "Room.__init__" = true)
    (kf_room_init : PySem.W.keepIn K (.ref f_room_init) = true)
    (a_is_name : PySem.W.nsIn K mainGlobals "is_name" = some (some (.ref f_is_name)))
    (l_is_name : K.lookup f_is_name = some ⟨oc_is_name, od_is_name, .func (PySem.W.fnOf "is_name" "is_name" (defArgs s_is_name) (defBody s_is_name) (defScope s_is_name) .none kV_is_name dc_is_name pm_is_name an_is_name cd_is_name ct_is_name), sl_is_name⟩)
    (c_is_name : PySem.W.codeIn K cd_is_name "is_name" = true)
    (kf_is_name : PySem.W.keepIn K (.ref f_is_name) = true)
    (a_is_wish : PySem.W.nsIn K mainGlobals "is_wish" = some (some (.ref f_is_wish)))
    (l_is_wish : K.lookup f_is_wish = some ⟨oc_is_wish, od_is_wish, .func (PySem.W.fnOf "is_wish" "is_wish" (defArgs s_is_wish) (defBody s_is_wish) (defScope s_is_wish) .none kV_is_wish dc_is_wish pm_is_wish an_is_wish cd_is_wish ct_is_wish), sl_is_wish⟩)
    (c_is_wish : PySem.W.codeIn K cd_is_wish "is_wish" = true)
    (kf_is_wish : PySem.W.keepIn K (.ref f_is_wish) = true)
    (a_room_is_waiting : PySem.W.findIn K (.ref CRoom) "is_waiting" = some (some (.ref f_room_is_waiting)))
    (i_room_is_waiting : PySem.W.isFn K (.ref f_room_is_waiting) = true)
    (l_room_is_waiting : K.lookup f_room_is_waiting = some ⟨oc_room_is_waiting, od_room_is_waiting, .func (PySem.W.fnOf "is_waiting" "Room.is_waiting" (defArgs s_room_is_waiting) (defBody s_room_is_waiting) (defScope s_room_is_waiting) .none kV_room_is_waiting dc_room_is_waiting pm_room_is_waiting an_room_is_waiting cd_room_is_waiting ct_room_is_waiting), sl_room_is_waiting⟩)
    (c_room_is_waiting : PySem.W.codeIn K cd_room_is_waiting "Room.is_waiting" = true)
    (kf_room_is_waiting : PySem.W.keepIn K (.ref f_room_is_waiting) = true)
    (a_room_is_inside : PySem.W.findIn K (.ref CRoom) "is_inside" = some (some (.ref f_room_is_inside)))
    (i_room_is_inside : PySem.W.isFn K (.ref f_room_is_inside) = true)
    (l_room_is_inside : K.lookup f_room_is_inside = some ⟨oc_room_is_inside, od_room_is_inside, .func (PySem.W.fnOf "is_inside" "Room.is_inside" (defArgs s_room_is_inside) (defBody s_room_is_inside) (defScope s_room_is_inside) .none kV_room_is_inside dc_room_is_inside pm_room_is_inside an_room_is_inside cd_room_is_inside ct_room_is_inside), sl_room_is_inside⟩)
    (c_room_is_inside : PySem.W.codeIn K cd_room_is_inside "Room.is_inside" = true)
    (kf_room_is_inside : PySem.W.keepIn K (.ref f_room_is_inside) = true)
    (a_can_begin : PySem.W.nsIn K mainGlobals "can_begin" = some (some (.ref f_can_begin)))
    (l_can_begin : K.lookup f_can_begin = some ⟨oc_can_begin, od_can_begin, .func (PySem.W.fnOf "can_begin" "can_begin" (defArgs s_can_begin) (defBody s_can_begin) (defScope s_can_begin) .none kV_can_begin dc_can_begin pm_can_begin an_can_begin cd_can_begin ct_can_begin), sl_can_begin⟩)
    (c_can_begin : PySem.W.codeIn K cd_can_begin "can_begin" = true)
    (kf_can_begin : PySem.W.keepIn K (.ref f_can_begin) = true)
    (a_first_reader : PySem.W.nsIn K mainGlobals "first_reader" = some (some (.ref f_first_reader)))
    (l_first_reader : K.lookup f_first_reader = some ⟨oc_first_reader, od_first_reader, .func (PySem.W.fnOf "first_reader" "first_reader" (defArgs s_first_reader) (defBody s_first_reader) (defScope s_first_reader) .none kV_first_reader dc_first_reader pm_first_reader an_first_reader cd_first_reader ct_first_reader), sl_first_reader⟩)
    (c_first_reader : PySem.W.codeIn K cd_first_reader "first_reader" = true)
    (kf_first_reader : PySem.W.keepIn K (.ref f_first_reader) = true)
    (a_next_place : PySem.W.nsIn K mainGlobals "next_place" = some (some (.ref f_next_place)))
    (l_next_place : K.lookup f_next_place = some ⟨oc_next_place, od_next_place, .func (PySem.W.fnOf "next_place" "next_place" (defArgs s_next_place) (defBody s_next_place) (defScope s_next_place) .none kV_next_place dc_next_place pm_next_place an_next_place cd_next_place ct_next_place), sl_next_place⟩)
    (c_next_place : PySem.W.codeIn K cd_next_place "next_place" = true)
    (kf_next_place : PySem.W.keepIn K (.ref f_next_place) = true)
    (a_room_begun : PySem.W.findIn K (.ref CRoom) "begun" = some (some (.ref f_room_begun)))
    (i_room_begun : PySem.W.isFn K (.ref f_room_begun) = true)
    (l_room_begun : K.lookup f_room_begun = some ⟨oc_room_begun, od_room_begun, .func (PySem.W.fnOf "begun" "Room.begun" (defArgs s_room_begun) (defBody s_room_begun) (defScope s_room_begun) .none kV_room_begun dc_room_begun pm_room_begun an_room_begun cd_room_begun ct_room_begun), sl_room_begun⟩)
    (c_room_begun : PySem.W.codeIn K cd_room_begun "Room.begun" = true)
    (kf_room_begun : PySem.W.keepIn K (.ref f_room_begun) = true)
    (a_room_settled : PySem.W.findIn K (.ref CRoom) "settled" = some (some (.ref f_room_settled)))
    (i_room_settled : PySem.W.isFn K (.ref f_room_settled) = true)
    (l_room_settled : K.lookup f_room_settled = some ⟨oc_room_settled, od_room_settled, .func (PySem.W.fnOf "settled" "Room.settled" (defArgs s_room_settled) (defBody s_room_settled) (defScope s_room_settled) .none kV_room_settled dc_room_settled pm_room_settled an_room_settled cd_room_settled ct_room_settled), sl_room_settled⟩)
    (c_room_settled : PySem.W.codeIn K cd_room_settled "Room.settled" = true)
    (kf_room_settled : PySem.W.keepIn K (.ref f_room_settled) = true)
    (a_room_come : PySem.W.findIn K (.ref CRoom) "come" = some (some (.ref f_room_come)))
    (i_room_come : PySem.W.isFn K (.ref f_room_come) = true)
    (l_room_come : K.lookup f_room_come = some ⟨oc_room_come, od_room_come, .func (PySem.W.fnOf "come" "Room.come" (defArgs s_room_come) (defBody s_room_come) (defScope s_room_come) .none kV_room_come dc_room_come pm_room_come an_room_come cd_room_come ct_room_come), sl_room_come⟩)
    (c_room_come : PySem.W.codeIn K cd_room_come "Room.come" = true)
    (kf_room_come : PySem.W.keepIn K (.ref f_room_come) = true)
    (a_room_look : PySem.W.findIn K (.ref CRoom) "look" = some (some (.ref f_room_look)))
    (i_room_look : PySem.W.isFn K (.ref f_room_look) = true)
    (l_room_look : K.lookup f_room_look = some ⟨oc_room_look, od_room_look, .func (PySem.W.fnOf "look" "Room.look" (defArgs s_room_look) (defBody s_room_look) (defScope s_room_look) .none kV_room_look dc_room_look pm_room_look an_room_look cd_room_look ct_room_look), sl_room_look⟩)
    (c_room_look : PySem.W.codeIn K cd_room_look "Room.look" = true)
    (kf_room_look : PySem.W.keepIn K (.ref f_room_look) = true)
    (a_room_ask : PySem.W.findIn K (.ref CRoom) "ask" = some (some (.ref f_room_ask)))
    (i_room_ask : PySem.W.isFn K (.ref f_room_ask) = true)
    (l_room_ask : K.lookup f_room_ask = some ⟨oc_room_ask, od_room_ask, .func (PySem.W.fnOf "ask" "Room.ask" (defArgs s_room_ask) (defBody s_room_ask) (defScope s_room_ask) .none kV_room_ask dc_room_ask pm_room_ask an_room_ask cd_room_ask ct_room_ask), sl_room_ask⟩)
    (c_room_ask : PySem.W.codeIn K cd_room_ask "Room.ask" = true)
    (kf_room_ask : PySem.W.keepIn K (.ref f_room_ask) = true)
    (a_l_room : PySem.W.nsIn K mainGlobals "_law_room" = some (some (.ref f_l_room)))
    (l_l_room : K.lookup f_l_room = some ⟨oc_l_room, od_l_room, .func (PySem.W.fnOf "_law_room" "_law_room" (defArgs s_l_room) (defBody s_l_room) (defScope s_l_room) .none kV_l_room dc_l_room pm_l_room an_l_room cd_l_room ct_l_room), sl_l_room⟩)
    (c_l_room : PySem.W.codeIn K cd_l_room "_law_room" = true)
    (kf_l_room : PySem.W.keepIn K (.ref f_l_room) = true)
    (a_room_journal : PySem.W.findIn K (.ref CRoom) "journal" = some (some (.ref f_room_journal)))
    (i_room_journal : PySem.W.isFn K (.ref f_room_journal) = true)
    (l_room_journal : K.lookup f_room_journal = some ⟨oc_room_journal, od_room_journal, .func (PySem.W.fnOf "journal" "Room.journal" (defArgs s_room_journal) (defBody s_room_journal) (defScope s_room_journal) .none kV_room_journal dc_room_journal pm_room_journal an_room_journal cd_room_journal ct_room_journal), sl_room_journal⟩)
    (c_room_journal : PySem.W.codeIn K cd_room_journal "Room.journal" = true)
    (kf_room_journal : PySem.W.keepIn K (.ref f_room_journal) = true)
    (a_room_line : PySem.W.findIn K (.ref CRoom) "line" = some (some (.ref f_room_line)))
    (i_room_line : PySem.W.isFn K (.ref f_room_line) = true)
    (l_room_line : K.lookup f_room_line = some ⟨oc_room_line, od_room_line, .func (PySem.W.fnOf "line" "Room.line" (defArgs s_room_line) (defBody s_room_line) (defScope s_room_line) .none kV_room_line dc_room_line pm_room_line an_room_line cd_room_line ct_room_line), sl_room_line⟩)
    (c_room_line : PySem.W.codeIn K cd_room_line "Room.line" = true)
    (kf_room_line : PySem.W.keepIn K (.ref f_room_line) = true)
    (a_room_asker : PySem.W.findIn K (.ref CRoom) "asker" = some (some (.ref f_room_asker)))
    (i_room_asker : PySem.W.isFn K (.ref f_room_asker) = true)
    (l_room_asker : K.lookup f_room_asker = some ⟨oc_room_asker, od_room_asker, .func (PySem.W.fnOf "asker" "Room.asker" (defArgs s_room_asker) (defBody s_room_asker) (defScope s_room_asker) .none kV_room_asker dc_room_asker pm_room_asker an_room_asker cd_room_asker ct_room_asker), sl_room_asker⟩)
    (c_room_asker : PySem.W.codeIn K cd_room_asker "Room.asker" = true)
    (kf_room_asker : PySem.W.keepIn K (.ref f_room_asker) = true)
    (a_room_writer : PySem.W.findIn K (.ref CRoom) "writer" = some (some (.ref f_room_writer)))
    (i_room_writer : PySem.W.isFn K (.ref f_room_writer) = true)
    (l_room_writer : K.lookup f_room_writer = some ⟨oc_room_writer, od_room_writer, .func (PySem.W.fnOf "writer" "Room.writer" (defArgs s_room_writer) (defBody s_room_writer) (defScope s_room_writer) .none kV_room_writer dc_room_writer pm_room_writer an_room_writer cd_room_writer ct_room_writer), sl_room_writer⟩)
    (c_room_writer : PySem.W.codeIn K cd_room_writer "Room.writer" = true)
    (kf_room_writer : PySem.W.keepIn K (.ref f_room_writer) = true)
    (a_room_readers : PySem.W.findIn K (.ref CRoom) "readers" = some (some (.ref f_room_readers)))
    (i_room_readers : PySem.W.isFn K (.ref f_room_readers) = true)
    (l_room_readers : K.lookup f_room_readers = some ⟨oc_room_readers, od_room_readers, .func (PySem.W.fnOf "readers" "Room.readers" (defArgs s_room_readers) (defBody s_room_readers) (defScope s_room_readers) .none kV_room_readers dc_room_readers pm_room_readers an_room_readers cd_room_readers ct_room_readers), sl_room_readers⟩)
    (c_room_readers : PySem.W.codeIn K cd_room_readers "Room.readers" = true)
    (kf_room_readers : PySem.W.keepIn K (.ref f_room_readers) = true)
    (a_l_state : PySem.W.nsIn K mainGlobals "_law_state" = some (some (.ref f_l_state)))
    (l_l_state : K.lookup f_l_state = some ⟨oc_l_state, od_l_state, .func (PySem.W.fnOf "_law_state" "_law_state" (defArgs s_l_state) (defBody s_l_state) (defScope s_l_state) .none kV_l_state dc_l_state pm_l_state an_l_state cd_l_state ct_l_state), sl_l_state⟩)
    (c_l_state : PySem.W.codeIn K cd_l_state "_law_state" = true)
    (kf_l_state : PySem.W.keepIn K (.ref f_l_state) = true)
    (a_l_due : PySem.W.nsIn K mainGlobals "_law_due" = some (some (.ref f_l_due)))
    (l_l_due : K.lookup f_l_due = some ⟨oc_l_due, od_l_due, .func (PySem.W.fnOf "_law_due" "_law_due" (defArgs s_l_due) (defBody s_l_due) (defScope s_l_due) .none kV_l_due dc_l_due pm_l_due an_l_due cd_l_due ct_l_due), sl_l_due⟩)
    (c_l_due : PySem.W.codeIn K cd_l_due "_law_due" = true)
    (kf_l_due : PySem.W.keepIn K (.ref f_l_due) = true)
    (a_room_leave : PySem.W.findIn K (.ref CRoom) "leave" = some (some (.ref f_room_leave)))
    (i_room_leave : PySem.W.isFn K (.ref f_room_leave) = true)
    (l_room_leave : K.lookup f_room_leave = some ⟨oc_room_leave, od_room_leave, .func (PySem.W.fnOf "leave" "Room.leave" (defArgs s_room_leave) (defBody s_room_leave) (defScope s_room_leave) .none kV_room_leave dc_room_leave pm_room_leave an_room_leave cd_room_leave ct_room_leave), sl_room_leave⟩)
    (c_room_leave : PySem.W.codeIn K cd_room_leave "Room.leave" = true)
    (kf_room_leave : PySem.W.keepIn K (.ref f_room_leave) = true)
    (a_room_ease : PySem.W.findIn K (.ref CRoom) "ease" = some (some (.ref f_room_ease)))
    (i_room_ease : PySem.W.isFn K (.ref f_room_ease) = true)
    (l_room_ease : K.lookup f_room_ease = some ⟨oc_room_ease, od_room_ease, .func (PySem.W.fnOf "ease" "Room.ease" (defArgs s_room_ease) (defBody s_room_ease) (defScope s_room_ease) .none kV_room_ease dc_room_ease pm_room_ease an_room_ease cd_room_ease ct_room_ease), sl_room_ease⟩)
    (c_room_ease : PySem.W.codeIn K cd_room_ease "Room.ease" = true)
    (kf_room_ease : PySem.W.keepIn K (.ref f_room_ease) = true)
    (a_room_passed : PySem.W.findIn K (.ref CRoom) "passed" = some (some (.ref f_room_passed)))
    (i_room_passed : PySem.W.isFn K (.ref f_room_passed) = true)
    (l_room_passed : K.lookup f_room_passed = some ⟨oc_room_passed, od_room_passed, .func (PySem.W.fnOf "passed" "Room.passed" (defArgs s_room_passed) (defBody s_room_passed) (defScope s_room_passed) .none kV_room_passed dc_room_passed pm_room_passed an_room_passed cd_room_passed ct_room_passed), sl_room_passed⟩)
    (c_room_passed : PySem.W.codeIn K cd_room_passed "Room.passed" = true)
    (kf_room_passed : PySem.W.keepIn K (.ref f_room_passed) = true)
    (a_l_whole : PySem.W.nsIn K mainGlobals "_law_whole" = some (some (.ref f_l_whole)))
    (l_l_whole : K.lookup f_l_whole = some ⟨oc_l_whole, od_l_whole, .func (PySem.W.fnOf "_law_whole" "_law_whole" (defArgs s_l_whole) (defBody s_l_whole) (defScope s_l_whole) .none kV_l_whole dc_l_whole pm_l_whole an_l_whole cd_l_whole ct_l_whole), sl_l_whole⟩)
    (c_l_whole : PySem.W.codeIn K cd_l_whole "_law_whole" = true)
    (kf_l_whole : PySem.W.keepIn K (.ref f_l_whole) = true)
    (a_l_kinds : PySem.W.nsIn K mainGlobals "_law_kinds" = some (some (.ref f_l_kinds)))
    (l_l_kinds : K.lookup f_l_kinds = some ⟨oc_l_kinds, od_l_kinds, .func (PySem.W.fnOf "_law_kinds" "_law_kinds" (defArgs s_l_kinds) (defBody s_l_kinds) (defScope s_l_kinds) .none kV_l_kinds dc_l_kinds pm_l_kinds an_l_kinds cd_l_kinds ct_l_kinds), sl_l_kinds⟩)
    (c_l_kinds : PySem.W.codeIn K cd_l_kinds "_law_kinds" = true)
    (kf_l_kinds : PySem.W.keepIn K (.ref f_l_kinds) = true)
    (a_l_tried : PySem.W.nsIn K mainGlobals "_law_tried" = some (some (.ref f_l_tried)))
    (l_l_tried : K.lookup f_l_tried = some ⟨oc_l_tried, od_l_tried, .func (PySem.W.fnOf "_law_tried" "_law_tried" (defArgs s_l_tried) (defBody s_l_tried) (defScope s_l_tried) .none kV_l_tried dc_l_tried pm_l_tried an_l_tried cd_l_tried ct_l_tried), sl_l_tried⟩)
    (c_l_tried : PySem.W.codeIn K cd_l_tried "_law_tried" = true)
    (kf_l_tried : PySem.W.keepIn K (.ref f_l_tried) = true)
    (a_law : PySem.W.nsIn K mainGlobals "law" = some (some (.ref f_law)))
    (l_law : K.lookup f_law = some ⟨oc_law, od_law, .func (PySem.W.fnOf "law" "law" (defArgs s_law) (defBody s_law) (defScope s_law) .none kV_law dc_law pm_law an_law cd_law ct_law), sl_law⟩)
    (c_law : PySem.W.codeIn K cd_law "law" = true)
    (kf_law : PySem.W.keepIn K (.ref f_law) = true) :
    ∃ fd : FuncData, (∀ (s : Shared) (v : Value), BindsTo s fd ⟨[v], []⟩ [("_law_script", v)]) ∧ ∀ base : Heap, K.In base → base.Ns mainGlobals mg → FnD P w K mg base 7 fa fd ["_law_script"] mLaw := by
  have e := hfa.symm.trans (PySem.W.mg_of X G a_law)
  cases e
  have T : Txt K mg ⟨CRoom, CRoomError, CBadName, CBadWish, CBadNumber, CKnown, CStranger, COutside, CInside, CReads, CWrites, CAsked, CBadText, CBadJournal⟩ := ⟨trivial, PySem.W.mg_none_of X G z_ValueError, PySem.W.mg_none_of X G z_bool, PySem.W.mg_none_of X G z_enumerate, PySem.W.mg_none_of X G z_int, PySem.W.mg_none_of X G z_isinstance, PySem.W.mg_none_of X G z_len, PySem.W.mg_none_of X G z_list, PySem.W.mg_none_of X G z_range, PySem.W.mg_none_of X G z_str, PySem.W.mg_none_of X G z_sum, ⟨_, PySem.W.mg_of X G v_LONGEST, ⟨_, rfl⟩⟩, ⟨_, PySem.W.mg_of X G v_MOST, ⟨_, rfl⟩⟩, ⟨_, PySem.W.mg_of X G v_SIGNS, ⟨_, rfl⟩⟩, PySem.W.mg_of X G aCRoomError, PySem.W.mg_of X G aCBadName, PySem.W.mg_of X G aCBadWish, PySem.W.mg_of X G aCBadNumber, PySem.W.mg_of X G aCKnown, PySem.W.mg_of X G aCStranger, PySem.W.mg_of X G aCOutside, PySem.W.mg_of X G aCInside, PySem.W.mg_of X G aCReads, PySem.W.mg_of X G aCWrites, PySem.W.mg_of X G aCAsked, PySem.W.mg_of X G aCBadText, PySem.W.mg_of X G aCBadJournal, x_BadName, k_BadName, s_BadName, t_BadName, e_BadName_RoomError, ⟨ecg_BadName, eck_BadName, ecs_BadName, ecd_BadName, eca_BadName, ecn_BadName, ect_BadName, ecm_BadName⟩, i_BadName_BadName, i_BadName_BadWish, i_BadName_BadNumber, i_BadName_Known, i_BadName_Stranger, i_BadName_Outside, i_BadName_Inside, i_BadName_Reads, i_BadName_Writes, i_BadName_Asked, i_BadName_BadText, i_BadName_BadJournal, i_BadName_ValueError, x_BadWish, k_BadWish, s_BadWish, t_BadWish, e_BadWish_RoomError, ⟨ecg_BadWish, eck_BadWish, ecs_BadWish, ecd_BadWish, eca_BadWish, ecn_BadWish, ect_BadWish, ecm_BadWish⟩, i_BadWish_BadName, i_BadWish_BadWish, i_BadWish_BadNumber, i_BadWish_Known, i_BadWish_Stranger, i_BadWish_Outside, i_BadWish_Inside, i_BadWish_Reads, i_BadWish_Writes, i_BadWish_Asked, i_BadWish_BadText, i_BadWish_BadJournal, i_BadWish_ValueError, x_BadNumber, k_BadNumber, s_BadNumber, t_BadNumber, e_BadNumber_RoomError, x_Known, k_Known, s_Known, t_Known, e_Known_RoomError, ⟨ecg_Known, eck_Known, ecs_Known, ecd_Known, eca_Known, ecn_Known, ect_Known, ecm_Known⟩, i_Known_BadName, i_Known_BadWish, i_Known_BadNumber, i_Known_Known, i_Known_Stranger, i_Known_Outside, i_Known_Inside, i_Known_Reads, i_Known_Writes, i_Known_Asked, i_Known_BadText, i_Known_BadJournal, i_Known_ValueError, x_Stranger, k_Stranger, s_Stranger, t_Stranger, e_Stranger_RoomError, ⟨ecg_Stranger, eck_Stranger, ecs_Stranger, ecd_Stranger, eca_Stranger, ecn_Stranger, ect_Stranger, ecm_Stranger⟩, i_Stranger_BadName, i_Stranger_BadWish, i_Stranger_BadNumber, i_Stranger_Known, i_Stranger_Stranger, i_Stranger_Outside, i_Stranger_Inside, i_Stranger_Reads, i_Stranger_Writes, i_Stranger_Asked, i_Stranger_BadText, i_Stranger_BadJournal, i_Stranger_ValueError, x_Outside, k_Outside, s_Outside, t_Outside, e_Outside_RoomError, ⟨ecg_Outside, eck_Outside, ecs_Outside, ecd_Outside, eca_Outside, ecn_Outside, ect_Outside, ecm_Outside⟩, i_Outside_BadName, i_Outside_BadWish, i_Outside_BadNumber, i_Outside_Known, i_Outside_Stranger, i_Outside_Outside, i_Outside_Inside, i_Outside_Reads, i_Outside_Writes, i_Outside_Asked, i_Outside_BadText, i_Outside_BadJournal, i_Outside_ValueError, x_Inside, k_Inside, s_Inside, t_Inside, e_Inside_RoomError, ⟨ecg_Inside, eck_Inside, ecs_Inside, ecd_Inside, eca_Inside, ecn_Inside, ect_Inside, ecm_Inside⟩, i_Inside_BadName, i_Inside_BadWish, i_Inside_BadNumber, i_Inside_Known, i_Inside_Stranger, i_Inside_Outside, i_Inside_Inside, i_Inside_Reads, i_Inside_Writes, i_Inside_Asked, i_Inside_BadText, i_Inside_BadJournal, i_Inside_ValueError, x_Reads, k_Reads, s_Reads, t_Reads, e_Reads_RoomError, ⟨ecg_Reads, eck_Reads, ecs_Reads, ecd_Reads, eca_Reads, ecn_Reads, ect_Reads, ecm_Reads⟩, i_Reads_BadName, i_Reads_BadWish, i_Reads_BadNumber, i_Reads_Known, i_Reads_Stranger, i_Reads_Outside, i_Reads_Inside, i_Reads_Reads, i_Reads_Writes, i_Reads_Asked, i_Reads_BadText, i_Reads_BadJournal, i_Reads_ValueError, x_Writes, k_Writes, s_Writes, t_Writes, e_Writes_RoomError, ⟨ecg_Writes, eck_Writes, ecs_Writes, ecd_Writes, eca_Writes, ecn_Writes, ect_Writes, ecm_Writes⟩, i_Writes_BadName, i_Writes_BadWish, i_Writes_BadNumber, i_Writes_Known, i_Writes_Stranger, i_Writes_Outside, i_Writes_Inside, i_Writes_Reads, i_Writes_Writes, i_Writes_Asked, i_Writes_BadText, i_Writes_BadJournal, i_Writes_ValueError, x_Asked, k_Asked, s_Asked, t_Asked, e_Asked_RoomError, ⟨ecg_Asked, eck_Asked, ecs_Asked, ecd_Asked, eca_Asked, ecn_Asked, ect_Asked, ecm_Asked⟩, i_Asked_BadName, i_Asked_BadWish, i_Asked_BadNumber, i_Asked_Known, i_Asked_Stranger, i_Asked_Outside, i_Asked_Inside, i_Asked_Reads, i_Asked_Writes, i_Asked_Asked, i_Asked_BadText, i_Asked_BadJournal, i_Asked_ValueError, ⟨pg, hd, po, sa⟩, PySem.W.mg_of X G aCRoom, no_alone, no_asking, no_patience, no_reading, no_rows, no_seats, no_waiting⟩
  have F_l_people := fun_mk (st := s_l_people) l_l_people c_l_people kf_l_people
  have b_l_people := F_l_people.binds (ps := ["_law_cell", "_law_many"]) fun _ _ _ _ _ _ us hl => match us, hl with | [_, _], _ => rfl
  have F_l_cell_at := fun_mk (st := s_l_cell_at) l_l_cell_at c_l_cell_at kf_l_cell_at
  have b_l_cell_at := F_l_cell_at.binds (ps := ["_law_script", "_law_k"]) fun _ _ _ _ _ _ us hl => match us, hl with | [_, _], _ => rfl
  have F_l_no_name := fun_mk (st := s_l_no_name) l_l_no_name c_l_no_name kf_l_no_name
  have b_l_no_name := F_l_no_name.binds (ps := ["_law_cell", "_law_name"]) fun _ _ _ _ _ _ us hl => match us, hl with | [_, _], _ => rfl
  have F_l_no_wish := fun_mk (st := s_l_no_wish) l_l_no_wish c_l_no_wish kf_l_no_wish
  have b_l_no_wish := F_l_no_wish.binds (ps := ["_law_cell"]) fun _ _ _ _ _ _ us hl => match us, hl with | [_], _ => rfl
  have F_is_number := fun_mk (st := s_is_number) l_is_number c_is_number kf_is_number
  have b_is_number := F_is_number.binds (ps := ["thing", "least"]) fun _ _ _ _ _ _ us hl => match us, hl with | [_, _], _ => rfl
  have F_room_init := fun_mk (st := s_room_init) l_room_init c_room_init kf_room_init
  have b_room_init := F_room_init.binds (ps := ["self", "seats", "patience"]) fun _ _ _ _ _ _ us hl => match us, hl with | [_, _, _], _ => rfl
  have F_is_name := fun_mk (st := s_is_name) l_is_name c_is_name kf_is_name
  have b_is_name := F_is_name.binds (ps := ["thing"]) fun _ _ _ _ _ _ us hl => match us, hl with | [_], _ => rfl
  have F_is_wish := fun_mk (st := s_is_wish) l_is_wish c_is_wish kf_is_wish
  have b_is_wish := F_is_wish.binds (ps := ["thing"]) fun _ _ _ _ _ _ us hl => match us, hl with | [_], _ => rfl
  have F_room_is_waiting := fun_mk (st := s_room_is_waiting) l_room_is_waiting c_room_is_waiting kf_room_is_waiting
  have b_room_is_waiting := F_room_is_waiting.binds (ps := ["self", "name"]) fun _ _ _ _ _ _ us hl => match us, hl with | [_, _], _ => rfl
  have F_room_is_inside := fun_mk (st := s_room_is_inside) l_room_is_inside c_room_is_inside kf_room_is_inside
  have b_room_is_inside := F_room_is_inside.binds (ps := ["self", "name"]) fun _ _ _ _ _ _ us hl => match us, hl with | [_, _], _ => rfl
  have F_can_begin := fun_mk (st := s_can_begin) l_can_begin c_can_begin kf_can_begin
  have b_can_begin := F_can_begin.binds (ps := ["seats", "reading", "writes", "wish"]) fun _ _ _ _ _ _ us hl => match us, hl with | [_, _, _, _], _ => rfl
  have F_first_reader := fun_mk (st := s_first_reader) l_first_reader c_first_reader kf_first_reader
  have b_first_reader := F_first_reader.binds (ps := ["line"]) fun _ _ _ _ _ _ us hl => match us, hl with | [_], _ => rfl
  have F_next_place := fun_mk (st := s_next_place) l_next_place c_next_place kf_next_place
  have b_next_place := F_next_place.binds (ps := ["line", "seats", "patience", "reading", "writes"]) fun _ _ _ _ _ _ us hl => match us, hl with | [_, _, _, _, _], _ => rfl
  have F_room_begun := fun_mk (st := s_room_begun) l_room_begun c_room_begun kf_room_begun
  have b_room_begun := F_room_begun.binds (ps := ["self"]) fun _ _ _ _ _ _ us hl => match us, hl with | [_], _ => rfl
  have F_room_settled := fun_mk (st := s_room_settled) l_room_settled c_room_settled kf_room_settled
  have b_room_settled := F_room_settled.binds (ps := ["self", "row"]) fun _ _ _ _ _ _ us hl => match us, hl with | [_, _], _ => rfl
  have F_room_come := fun_mk (st := s_room_come) l_room_come c_room_come kf_room_come
  have b_room_come := F_room_come.binds (ps := ["self", "name", "wish"]) fun _ _ _ _ _ _ us hl => match us, hl with | [_, _, _], _ => rfl
  have F_room_look := fun_mk (st := s_room_look) l_room_look c_room_look kf_room_look
  have b_room_look := F_room_look.binds (ps := ["self", "name"]) fun _ _ _ _ _ _ us hl => match us, hl with | [_, _], _ => rfl
  have F_room_ask := fun_mk (st := s_room_ask) l_room_ask c_room_ask kf_room_ask
  have b_room_ask := F_room_ask.binds (ps := ["self", "name"]) fun _ _ _ _ _ _ us hl => match us, hl with | [_, _], _ => rfl
  have F_l_room := fun_mk (st := s_l_room) l_l_room c_l_room kf_l_room
  have b_l_room := F_l_room.binds (ps := ["_law_way", "_law_people_here"]) fun _ _ _ _ _ _ us hl => match us, hl with | [_, _], _ => rfl
  have F_room_journal := fun_mk (st := s_room_journal) l_room_journal c_room_journal kf_room_journal
  have b_room_journal := F_room_journal.binds (ps := ["self"]) fun _ _ _ _ _ _ us hl => match us, hl with | [_], _ => rfl
  have F_room_line := fun_mk (st := s_room_line) l_room_line c_room_line kf_room_line
  have b_room_line := F_room_line.binds (ps := ["self"]) fun _ _ _ _ _ _ us hl => match us, hl with | [_], _ => rfl
  have F_room_asker := fun_mk (st := s_room_asker) l_room_asker c_room_asker kf_room_asker
  have b_room_asker := F_room_asker.binds (ps := ["self"]) fun _ _ _ _ _ _ us hl => match us, hl with | [_], _ => rfl
  have F_room_writer := fun_mk (st := s_room_writer) l_room_writer c_room_writer kf_room_writer
  have b_room_writer := F_room_writer.binds (ps := ["self"]) fun _ _ _ _ _ _ us hl => match us, hl with | [_], _ => rfl
  have F_room_readers := fun_mk (st := s_room_readers) l_room_readers c_room_readers kf_room_readers
  have b_room_readers := F_room_readers.binds (ps := ["self"]) fun _ _ _ _ _ _ us hl => match us, hl with | [_], _ => rfl
  have F_l_state := fun_mk (st := s_l_state) l_l_state c_l_state kf_l_state
  have b_l_state := F_l_state.binds (ps := ["_law_room_here"]) fun _ _ _ _ _ _ us hl => match us, hl with | [_], _ => rfl
  have F_l_due := fun_mk (st := s_l_due) l_l_due c_l_due kf_l_due
  have b_l_due := F_l_due.binds (ps := ["_law_way", "_law_deed", "_law_who", "_law_good", "_law_wished"]) fun _ _ _ _ _ _ us hl => match us, hl with | [_, _, _, _, _], _ => rfl
  have F_room_leave := fun_mk (st := s_room_leave) l_room_leave c_room_leave kf_room_leave
  have b_room_leave := F_room_leave.binds (ps := ["self", "name"]) fun _ _ _ _ _ _ us hl => match us, hl with | [_, _], _ => rfl
  have F_room_ease := fun_mk (st := s_room_ease) l_room_ease c_room_ease kf_room_ease
  have b_room_ease := F_room_ease.binds (ps := ["self", "name"]) fun _ _ _ _ _ _ us hl => match us, hl with | [_, _], _ => rfl
  have F_room_passed := fun_mk (st := s_room_passed) l_room_passed c_room_passed kf_room_passed
  have b_room_passed := F_room_passed.binds (ps := ["self", "name"]) fun _ _ _ _ _ _ us hl => match us, hl with | [_, _], _ => rfl
  have F_l_whole := fun_mk (st := s_l_whole) l_l_whole c_l_whole kf_l_whole
  have b_l_whole := F_l_whole.binds (ps := ["_law_found"]) fun _ _ _ _ _ _ us hl => match us, hl with | [_], _ => rfl
  have F_l_kinds := fun_mk (st := s_l_kinds) l_l_kinds c_l_kinds kf_l_kinds
  have b_l_kinds := F_l_kinds.binds (ps := ["_law_e"]) fun _ _ _ _ _ _ us hl => match us, hl with | [_], _ => rfl
  have F_l_tried := fun_mk (st := s_l_tried) l_l_tried c_l_tried kf_l_tried
  have b_l_tried := F_l_tried.binds (ps := ["_law_room_here", "_law_deed", "_law_name", "_law_wish"]) fun _ _ _ _ _ _ us hl => match us, hl with | [_, _, _, _], _ => rfl
  have F_law := fun_mk (st := s_law) l_law c_law kf_law
  have b_law := F_law.binds (ps := ["_law_script"]) fun _ _ _ _ _ _ us hl => match us, hl with | [_], _ => rfl
  refine ⟨PySem.W.fnOf "law" "law" (defArgs s_law) (defBody s_law) (defScope s_law) .none kV_law dc_law pm_law an_law cd_law ct_law, fun s v => .of_eq rfl, fun base _ _ => ?_⟩
  have h_l_people := (⟨_, _, PySem.W.mg_of X G a_l_people, kf_l_people, b_l_people, ok_l_people F_l_people T⟩ : Has P w K mg base "_law_people" ["_law_cell", "_law_many"] 1 m_l_people)
  have h_l_cell_at := (⟨_, _, PySem.W.mg_of X G a_l_cell_at, kf_l_cell_at, b_l_cell_at, ok_l_cell_at F_l_cell_at T⟩ : Has P w K mg base "_law_cell_at" ["_law_script", "_law_k"] 1 m_l_cell_at)
  have h_l_no_name := (⟨_, _, PySem.W.mg_of X G a_l_no_name, kf_l_no_name, b_l_no_name, ok_l_no_name F_l_no_name T⟩ : Has P w K mg base "_law_no_name" ["_law_cell", "_law_name"] 1 m_l_no_name)
  have h_l_no_wish := (⟨_, _, PySem.W.mg_of X G a_l_no_wish, kf_l_no_wish, b_l_no_wish, ok_l_no_wish F_l_no_wish T⟩ : Has P w K mg base "_law_no_wish" ["_law_cell"] 1 m_l_no_wish)
  have h_is_number := (⟨_, _, PySem.W.mg_of X G a_is_number, kf_is_number, b_is_number, ok_is_number F_is_number T⟩ : Has P w K mg base "is_number" ["thing", "least"] 1 m_is_number)
  have h_room_init := (⟨_, _, ⟨mk, a_room_init, i_room_init, kc⟩, b_room_init, ok_room_init F_room_init T h_is_number⟩ : HasI P w K mg base CRoom ["self", "seats", "patience"] 2 (m_room_init ⟨CRoom, CRoomError, CBadName, CBadWish, CBadNumber, CKnown, CStranger, COutside, CInside, CReads, CWrites, CAsked, CBadText, CBadJournal⟩))
  have h_is_name := (⟨_, _, PySem.W.mg_of X G a_is_name, kf_is_name, b_is_name, ok_is_name F_is_name T⟩ : Has P w K mg base "is_name" ["thing"] 1 m_is_name)
  have h_is_wish := (⟨_, _, PySem.W.mg_of X G a_is_wish, kf_is_wish, b_is_wish, ok_is_wish F_is_wish T⟩ : Has P w K mg base "is_wish" ["thing"] 1 m_is_wish)
  have h_room_is_waiting := (⟨_, _, ⟨a_room_is_waiting, i_room_is_waiting, kf_room_is_waiting⟩, b_room_is_waiting, ok_room_is_waiting F_room_is_waiting T⟩ : HasM P w K mg base CRoom "is_waiting" ["self", "name"] 1 (m_room_is_waiting ⟨CRoom, CRoomError, CBadName, CBadWish, CBadNumber, CKnown, CStranger, COutside, CInside, CReads, CWrites, CAsked, CBadText, CBadJournal⟩))
  have h_room_is_inside := (⟨_, _, ⟨a_room_is_inside, i_room_is_inside, kf_room_is_inside⟩, b_room_is_inside, ok_room_is_inside F_room_is_inside T⟩ : HasM P w K mg base CRoom "is_inside" ["self", "name"] 1 (m_room_is_inside ⟨CRoom, CRoomError, CBadName, CBadWish, CBadNumber, CKnown, CStranger, COutside, CInside, CReads, CWrites, CAsked, CBadText, CBadJournal⟩))
  have h_can_begin := (⟨_, _, PySem.W.mg_of X G a_can_begin, kf_can_begin, b_can_begin, ok_can_begin F_can_begin T⟩ : Has P w K mg base "can_begin" ["seats", "reading", "writes", "wish"] 1 m_can_begin)
  have h_first_reader := (⟨_, _, PySem.W.mg_of X G a_first_reader, kf_first_reader, b_first_reader, ok_first_reader F_first_reader T⟩ : Has P w K mg base "first_reader" ["line"] 1 m_first_reader)
  have h_next_place := (⟨_, _, PySem.W.mg_of X G a_next_place, kf_next_place, b_next_place, ok_next_place F_next_place T h_can_begin h_first_reader⟩ : Has P w K mg base "next_place" ["line", "seats", "patience", "reading", "writes"] 2 m_next_place)
  have h_room_begun := (⟨_, _, ⟨a_room_begun, i_room_begun, kf_room_begun⟩, b_room_begun, ok_room_begun F_room_begun T h_next_place⟩ : HasM P w K mg base CRoom "begun" ["self"] 3 (m_room_begun ⟨CRoom, CRoomError, CBadName, CBadWish, CBadNumber, CKnown, CStranger, COutside, CInside, CReads, CWrites, CAsked, CBadText, CBadJournal⟩))
  have h_room_settled := (⟨_, _, ⟨a_room_settled, i_room_settled, kf_room_settled⟩, b_room_settled, ok_room_settled F_room_settled T h_room_begun⟩ : HasM P w K mg base CRoom "settled" ["self", "row"] 4 (m_room_settled ⟨CRoom, CRoomError, CBadName, CBadWish, CBadNumber, CKnown, CStranger, COutside, CInside, CReads, CWrites, CAsked, CBadText, CBadJournal⟩))
  have h_room_come := (⟨_, _, ⟨a_room_come, i_room_come, kf_room_come⟩, b_room_come, ok_room_come F_room_come T h_is_name h_is_wish h_room_is_waiting h_room_is_inside h_room_settled⟩ : HasM P w K mg base CRoom "come" ["self", "name", "wish"] 5 (m_room_come ⟨CRoom, CRoomError, CBadName, CBadWish, CBadNumber, CKnown, CStranger, COutside, CInside, CReads, CWrites, CAsked, CBadText, CBadJournal⟩))
  have h_room_look := (⟨_, _, ⟨a_room_look, i_room_look, kf_room_look⟩, b_room_look, ok_room_look F_room_look T h_room_is_waiting h_room_is_inside h_is_name⟩ : HasM P w K mg base CRoom "look" ["self", "name"] 2 (m_room_look ⟨CRoom, CRoomError, CBadName, CBadWish, CBadNumber, CKnown, CStranger, COutside, CInside, CReads, CWrites, CAsked, CBadText, CBadJournal⟩))
  have h_room_ask := (⟨_, _, ⟨a_room_ask, i_room_ask, kf_room_ask⟩, b_room_ask, ok_room_ask F_room_ask T h_room_look h_room_is_waiting h_room_settled⟩ : HasM P w K mg base CRoom "ask" ["self", "name"] 5 (m_room_ask ⟨CRoom, CRoomError, CBadName, CBadWish, CBadNumber, CKnown, CStranger, COutside, CInside, CReads, CWrites, CAsked, CBadText, CBadJournal⟩))
  have h_l_room := (⟨_, _, PySem.W.mg_of X G a_l_room, kf_l_room, b_l_room, ok_l_room F_l_room T h_room_init h_room_come h_room_ask⟩ : Has P w K mg base "_law_room" ["_law_way", "_law_people_here"] 6 (m_l_room ⟨CRoom, CRoomError, CBadName, CBadWish, CBadNumber, CKnown, CStranger, COutside, CInside, CReads, CWrites, CAsked, CBadText, CBadJournal⟩))
  have h_room_journal := (⟨_, _, ⟨a_room_journal, i_room_journal, kf_room_journal⟩, b_room_journal, ok_room_journal F_room_journal T⟩ : HasM P w K mg base CRoom "journal" ["self"] 1 (m_room_journal ⟨CRoom, CRoomError, CBadName, CBadWish, CBadNumber, CKnown, CStranger, COutside, CInside, CReads, CWrites, CAsked, CBadText, CBadJournal⟩))
  have h_room_line := (⟨_, _, ⟨a_room_line, i_room_line, kf_room_line⟩, b_room_line, ok_room_line F_room_line T⟩ : HasM P w K mg base CRoom "line" ["self"] 1 (m_room_line ⟨CRoom, CRoomError, CBadName, CBadWish, CBadNumber, CKnown, CStranger, COutside, CInside, CReads, CWrites, CAsked, CBadText, CBadJournal⟩))
  have h_room_asker := (⟨_, _, ⟨a_room_asker, i_room_asker, kf_room_asker⟩, b_room_asker, ok_room_asker F_room_asker T⟩ : HasM P w K mg base CRoom "asker" ["self"] 1 (m_room_asker ⟨CRoom, CRoomError, CBadName, CBadWish, CBadNumber, CKnown, CStranger, COutside, CInside, CReads, CWrites, CAsked, CBadText, CBadJournal⟩))
  have h_room_writer := (⟨_, _, ⟨a_room_writer, i_room_writer, kf_room_writer⟩, b_room_writer, ok_room_writer F_room_writer T⟩ : HasM P w K mg base CRoom "writer" ["self"] 1 (m_room_writer ⟨CRoom, CRoomError, CBadName, CBadWish, CBadNumber, CKnown, CStranger, COutside, CInside, CReads, CWrites, CAsked, CBadText, CBadJournal⟩))
  have h_room_readers := (⟨_, _, ⟨a_room_readers, i_room_readers, kf_room_readers⟩, b_room_readers, ok_room_readers F_room_readers T⟩ : HasM P w K mg base CRoom "readers" ["self"] 1 (m_room_readers ⟨CRoom, CRoomError, CBadName, CBadWish, CBadNumber, CKnown, CStranger, COutside, CInside, CReads, CWrites, CAsked, CBadText, CBadJournal⟩))
  have h_l_state := (⟨_, _, PySem.W.mg_of X G a_l_state, kf_l_state, b_l_state, ok_l_state F_l_state T h_room_journal h_room_line h_room_asker h_room_writer h_room_readers⟩ : Has P w K mg base "_law_state" ["_law_room_here"] 2 (m_l_state ⟨CRoom, CRoomError, CBadName, CBadWish, CBadNumber, CKnown, CStranger, COutside, CInside, CReads, CWrites, CAsked, CBadText, CBadJournal⟩))
  have h_l_due := (⟨_, _, PySem.W.mg_of X G a_l_due, kf_l_due, b_l_due, ok_l_due F_l_due T⟩ : Has P w K mg base "_law_due" ["_law_way", "_law_deed", "_law_who", "_law_good", "_law_wished"] 1 m_l_due)
  have h_room_leave := (⟨_, _, ⟨a_room_leave, i_room_leave, kf_room_leave⟩, b_room_leave, ok_room_leave F_room_leave T h_room_look h_room_settled⟩ : HasM P w K mg base CRoom "leave" ["self", "name"] 5 (m_room_leave ⟨CRoom, CRoomError, CBadName, CBadWish, CBadNumber, CKnown, CStranger, COutside, CInside, CReads, CWrites, CAsked, CBadText, CBadJournal⟩))
  have h_room_ease := (⟨_, _, ⟨a_room_ease, i_room_ease, kf_room_ease⟩, b_room_ease, ok_room_ease F_room_ease T h_room_look h_room_is_waiting h_room_settled⟩ : HasM P w K mg base CRoom "ease" ["self", "name"] 5 (m_room_ease ⟨CRoom, CRoomError, CBadName, CBadWish, CBadNumber, CKnown, CStranger, COutside, CInside, CReads, CWrites, CAsked, CBadText, CBadJournal⟩))
  have h_room_passed := (⟨_, _, ⟨a_room_passed, i_room_passed, kf_room_passed⟩, b_room_passed, ok_room_passed F_room_passed T h_room_look h_room_is_inside⟩ : HasM P w K mg base CRoom "passed" ["self", "name"] 3 (m_room_passed ⟨CRoom, CRoomError, CBadName, CBadWish, CBadNumber, CKnown, CStranger, COutside, CInside, CReads, CWrites, CAsked, CBadText, CBadJournal⟩))
  have h_l_whole := (⟨_, _, PySem.W.mg_of X G a_l_whole, kf_l_whole, b_l_whole, ok_l_whole F_l_whole T⟩ : Has P w K mg base "_law_whole" ["_law_found"] 1 m_l_whole)
  have h_l_kinds := (⟨_, _, PySem.W.mg_of X G a_l_kinds, kf_l_kinds, b_l_kinds, ok_l_kinds F_l_kinds T⟩ : HasG P w K mg base (fun _ => L2N.CX P w) "_law_kinds" ["_law_e"] 1 (m_l_kinds K ⟨CRoom, CRoomError, CBadName, CBadWish, CBadNumber, CKnown, CStranger, COutside, CInside, CReads, CWrites, CAsked, CBadText, CBadJournal⟩))
  have h_l_tried := (⟨_, _, PySem.W.mg_of X G a_l_tried, kf_l_tried, b_l_tried, ok_l_tried F_l_tried T h_room_come h_room_leave h_room_ask h_room_ease h_room_passed h_l_whole h_l_kinds⟩ : Has P w K mg base "_law_tried" ["_law_room_here", "_law_deed", "_law_name", "_law_wish"] 6 (m_l_tried ⟨CRoom, CRoomError, CBadName, CBadWish, CBadNumber, CKnown, CStranger, COutside, CInside, CReads, CWrites, CAsked, CBadText, CBadJournal⟩))
  exact ok_law F_law T h_l_people h_l_cell_at h_l_no_name h_l_no_wish h_l_room h_l_state h_l_due h_l_tried
end My
open PySem PySem.W PyProof.Rows
set_option maxRecDepth 100000 in
set_option maxHeartbeats 0 in
theorem PySem.Challenge.cw_readwriteroom_k05_deeds_refused_holds : PySem.Challenge.rw_readwriteroom_k05_deeds_refused.Holds := by
  w_on; o_law; k_head; (case hw => w_witness2)
  k_fill
  refine DL.walkD (l := PySem.Challenge.rw_readwriteroom_k05_deeds_refused) (k := 7) (x := "_law_script") rfl rfl ⟨rfl, by decide, by decide⟩ (fun w h Y => PySem.W.kIn_of Y) ?F
  case F =>
    intro w mg fa h KX G hmg
    refine' My.all_mk KX G hmg ?aCRoomError ?aCBadName ?aCBadWish ?aCBadNumber ?aCKnown ?aCStranger ?aCOutside ?aCInside ?aCReads ?aCWrites ?aCAsked ?aCBadText ?aCBadJournal ?x_BadName ?k_BadName ?s_BadName ?t_BadName ?x_BadWish ?k_BadWish ?s_BadWish ?t_BadWish ?x_BadNumber ?k_BadNumber ?s_BadNumber ?t_BadNumber ?x_Known ?k_Known ?s_Known ?t_Known ?x_Stranger ?k_Stranger ?s_Stranger ?t_Stranger ?x_Outside ?k_Outside ?s_Outside ?t_Outside ?x_Inside ?k_Inside ?s_Inside ?t_Inside ?x_Reads ?k_Reads ?s_Reads ?t_Reads ?x_Writes ?k_Writes ?s_Writes ?t_Writes ?x_Asked ?k_Asked ?s_Asked ?t_Asked ?e_BadName_RoomError ?e_BadWish_RoomError ?e_BadNumber_RoomError ?e_Known_RoomError ?e_Stranger_RoomError ?e_Outside_RoomError ?e_Inside_RoomError ?e_Reads_RoomError ?e_Writes_RoomError ?e_Asked_RoomError ?ecg_BadName ?eck_BadName ?ecs_BadName ?ecd_BadName ?eca_BadName ?ecn_BadName ?ect_BadName ?ecm_BadName ?i_BadName_BadName ?i_BadName_BadWish ?i_BadName_BadNumber ?i_BadName_Known ?i_BadName_Stranger ?i_BadName_Outside ?i_BadName_Inside ?i_BadName_Reads ?i_BadName_Writes ?i_BadName_Asked ?i_BadName_BadText ?i_BadName_BadJournal ?i_BadName_ValueError ?ecg_BadWish ?eck_BadWish ?ecs_BadWish ?ecd_BadWish ?eca_BadWish ?ecn_BadWish ?ect_BadWish ?ecm_BadWish ?i_BadWish_BadName ?i_BadWish_BadWish ?i_BadWish_BadNumber ?i_BadWish_Known ?i_BadWish_Stranger ?i_BadWish_Outside ?i_BadWish_Inside ?i_BadWish_Reads ?i_BadWish_Writes ?i_BadWish_Asked ?i_BadWish_BadText ?i_BadWish_BadJournal ?i_BadWish_ValueError ?ecg_Known ?eck_Known ?ecs_Known ?ecd_Known ?eca_Known ?ecn_Known ?ect_Known ?ecm_Known ?i_Known_BadName ?i_Known_BadWish ?i_Known_BadNumber ?i_Known_Known ?i_Known_Stranger ?i_Known_Outside ?i_Known_Inside ?i_Known_Reads ?i_Known_Writes ?i_Known_Asked ?i_Known_BadText ?i_Known_BadJournal ?i_Known_ValueError ?ecg_Stranger ?eck_Stranger ?ecs_Stranger ?ecd_Stranger ?eca_Stranger ?ecn_Stranger ?ect_Stranger ?ecm_Stranger ?i_Stranger_BadName ?i_Stranger_BadWish ?i_Stranger_BadNumber ?i_Stranger_Known ?i_Stranger_Stranger ?i_Stranger_Outside ?i_Stranger_Inside ?i_Stranger_Reads ?i_Stranger_Writes ?i_Stranger_Asked ?i_Stranger_BadText ?i_Stranger_BadJournal ?i_Stranger_ValueError ?ecg_Outside ?eck_Outside ?ecs_Outside ?ecd_Outside ?eca_Outside ?ecn_Outside ?ect_Outside ?ecm_Outside ?i_Outside_BadName ?i_Outside_BadWish ?i_Outside_BadNumber ?i_Outside_Known ?i_Outside_Stranger ?i_Outside_Outside ?i_Outside_Inside ?i_Outside_Reads ?i_Outside_Writes ?i_Outside_Asked ?i_Outside_BadText ?i_Outside_BadJournal ?i_Outside_ValueError ?ecg_Inside ?eck_Inside ?ecs_Inside ?ecd_Inside ?eca_Inside ?ecn_Inside ?ect_Inside ?ecm_Inside ?i_Inside_BadName ?i_Inside_BadWish ?i_Inside_BadNumber ?i_Inside_Known ?i_Inside_Stranger ?i_Inside_Outside ?i_Inside_Inside ?i_Inside_Reads ?i_Inside_Writes ?i_Inside_Asked ?i_Inside_BadText ?i_Inside_BadJournal ?i_Inside_ValueError ?ecg_Reads ?eck_Reads ?ecs_Reads ?ecd_Reads ?eca_Reads ?ecn_Reads ?ect_Reads ?ecm_Reads ?i_Reads_BadName ?i_Reads_BadWish ?i_Reads_BadNumber ?i_Reads_Known ?i_Reads_Stranger ?i_Reads_Outside ?i_Reads_Inside ?i_Reads_Reads ?i_Reads_Writes ?i_Reads_Asked ?i_Reads_BadText ?i_Reads_BadJournal ?i_Reads_ValueError ?ecg_Writes ?eck_Writes ?ecs_Writes ?ecd_Writes ?eca_Writes ?ecn_Writes ?ect_Writes ?ecm_Writes ?i_Writes_BadName ?i_Writes_BadWish ?i_Writes_BadNumber ?i_Writes_Known ?i_Writes_Stranger ?i_Writes_Outside ?i_Writes_Inside ?i_Writes_Reads ?i_Writes_Writes ?i_Writes_Asked ?i_Writes_BadText ?i_Writes_BadJournal ?i_Writes_ValueError ?ecg_Asked ?eck_Asked ?ecs_Asked ?ecd_Asked ?eca_Asked ?ecn_Asked ?ect_Asked ?ecm_Asked ?i_Asked_BadName ?i_Asked_BadWish ?i_Asked_BadNumber ?i_Asked_Known ?i_Asked_Stranger ?i_Asked_Outside ?i_Asked_Inside ?i_Asked_Reads ?i_Asked_Writes ?i_Asked_Asked ?i_Asked_BadText ?i_Asked_BadJournal ?i_Asked_ValueError ?z_ValueError ?z_bool ?z_enumerate ?z_int ?z_isinstance ?z_len ?z_list ?z_range ?z_str ?z_sum ?v_LONGEST ?v_MOST ?v_SIGNS ?aCRoom ?pg ?hd ?po ?sa ?mk ?kc ?no_alone ?no_asking ?no_patience ?no_reading ?no_rows ?no_seats ?no_waiting ?a_l_people ?l_l_people ?c_l_people ?kf_l_people ?a_l_cell_at ?l_l_cell_at ?c_l_cell_at ?kf_l_cell_at ?a_l_no_name ?l_l_no_name ?c_l_no_name ?kf_l_no_name ?a_l_no_wish ?l_l_no_wish ?c_l_no_wish ?kf_l_no_wish ?a_is_number ?l_is_number ?c_is_number ?kf_is_number ?a_room_init ?i_room_init ?l_room_init ?c_room_init ?kf_room_init ?a_is_name ?l_is_name ?c_is_name ?kf_is_name ?a_is_wish ?l_is_wish ?c_is_wish ?kf_is_wish ?a_room_is_waiting ?i_room_is_waiting ?l_room_is_waiting ?c_room_is_waiting ?kf_room_is_waiting ?a_room_is_inside ?i_room_is_inside ?l_room_is_inside ?c_room_is_inside ?kf_room_is_inside ?a_can_begin ?l_can_begin ?c_can_begin ?kf_can_begin ?a_first_reader ?l_first_reader ?c_first_reader ?kf_first_reader ?a_next_place ?l_next_place ?c_next_place ?kf_next_place ?a_room_begun ?i_room_begun ?l_room_begun ?c_room_begun ?kf_room_begun ?a_room_settled ?i_room_settled ?l_room_settled ?c_room_settled ?kf_room_settled ?a_room_come ?i_room_come ?l_room_come ?c_room_come ?kf_room_come ?a_room_look ?i_room_look ?l_room_look ?c_room_look ?kf_room_look ?a_room_ask ?i_room_ask ?l_room_ask ?c_room_ask ?kf_room_ask ?a_l_room ?l_l_room ?c_l_room ?kf_l_room ?a_room_journal ?i_room_journal ?l_room_journal ?c_room_journal ?kf_room_journal ?a_room_line ?i_room_line ?l_room_line ?c_room_line ?kf_room_line ?a_room_asker ?i_room_asker ?l_room_asker ?c_room_asker ?kf_room_asker ?a_room_writer ?i_room_writer ?l_room_writer ?c_room_writer ?kf_room_writer ?a_room_readers ?i_room_readers ?l_room_readers ?c_room_readers ?kf_room_readers ?a_l_state ?l_l_state ?c_l_state ?kf_l_state ?a_l_due ?l_l_due ?c_l_due ?kf_l_due ?a_room_leave ?i_room_leave ?l_room_leave ?c_room_leave ?kf_room_leave ?a_room_ease ?i_room_ease ?l_room_ease ?c_room_ease ?kf_room_ease ?a_room_passed ?i_room_passed ?l_room_passed ?c_room_passed ?kf_room_passed ?a_l_whole ?l_l_whole ?c_l_whole ?kf_l_whole ?a_l_kinds ?l_l_kinds ?c_l_kinds ?kf_l_kinds ?a_l_tried ?l_l_tried ?c_l_tried ?kf_l_tried ?a_law ?l_law ?c_law ?kf_law
    (case aCRoomError => first | k_is | k_exc | kts_exm | kit_is)
    (case aCBadName => first | k_is | k_exc | kts_exm | kit_is)
    (case aCBadWish => first | k_is | k_exc | kts_exm | kit_is)
    (case aCBadNumber => first | k_is | k_exc | kts_exm | kit_is)
    (case aCKnown => first | k_is | k_exc | kts_exm | kit_is)
    (case aCStranger => first | k_is | k_exc | kts_exm | kit_is)
    (case aCOutside => first | k_is | k_exc | kts_exm | kit_is)
    (case aCInside => first | k_is | k_exc | kts_exm | kit_is)
    (case aCReads => first | k_is | k_exc | kts_exm | kit_is)
    (case aCWrites => first | k_is | k_exc | kts_exm | kit_is)
    (case aCAsked => first | k_is | k_exc | kts_exm | kit_is)
    (case aCBadText => first | k_is | k_exc | kts_exm | kit_is)
    (case aCBadJournal => first | k_is | k_exc | kts_exm | kit_is)
    (case x_BadName => first | k_is | k_exc | kts_exm | kit_is)
    (case k_BadName => first | k_is | k_exc | kts_exm | kit_is)
    (case s_BadName => first | k_is | k_exc | kts_exm | kit_is)
    (case t_BadName => first | k_is | k_exc | kts_exm | kit_is)
    (case x_BadWish => first | k_is | k_exc | kts_exm | kit_is)
    (case k_BadWish => first | k_is | k_exc | kts_exm | kit_is)
    (case s_BadWish => first | k_is | k_exc | kts_exm | kit_is)
    (case t_BadWish => first | k_is | k_exc | kts_exm | kit_is)
    (case x_BadNumber => first | k_is | k_exc | kts_exm | kit_is)
    (case k_BadNumber => first | k_is | k_exc | kts_exm | kit_is)
    (case s_BadNumber => first | k_is | k_exc | kts_exm | kit_is)
    (case t_BadNumber => first | k_is | k_exc | kts_exm | kit_is)
    (case x_Known => first | k_is | k_exc | kts_exm | kit_is)
    (case k_Known => first | k_is | k_exc | kts_exm | kit_is)
    (case s_Known => first | k_is | k_exc | kts_exm | kit_is)
    (case t_Known => first | k_is | k_exc | kts_exm | kit_is)
    (case x_Stranger => first | k_is | k_exc | kts_exm | kit_is)
    (case k_Stranger => first | k_is | k_exc | kts_exm | kit_is)
    (case s_Stranger => first | k_is | k_exc | kts_exm | kit_is)
    (case t_Stranger => first | k_is | k_exc | kts_exm | kit_is)
    (case x_Outside => first | k_is | k_exc | kts_exm | kit_is)
    (case k_Outside => first | k_is | k_exc | kts_exm | kit_is)
    (case s_Outside => first | k_is | k_exc | kts_exm | kit_is)
    (case t_Outside => first | k_is | k_exc | kts_exm | kit_is)
    (case x_Inside => first | k_is | k_exc | kts_exm | kit_is)
    (case k_Inside => first | k_is | k_exc | kts_exm | kit_is)
    (case s_Inside => first | k_is | k_exc | kts_exm | kit_is)
    (case t_Inside => first | k_is | k_exc | kts_exm | kit_is)
    (case x_Reads => first | k_is | k_exc | kts_exm | kit_is)
    (case k_Reads => first | k_is | k_exc | kts_exm | kit_is)
    (case s_Reads => first | k_is | k_exc | kts_exm | kit_is)
    (case t_Reads => first | k_is | k_exc | kts_exm | kit_is)
    (case x_Writes => first | k_is | k_exc | kts_exm | kit_is)
    (case k_Writes => first | k_is | k_exc | kts_exm | kit_is)
    (case s_Writes => first | k_is | k_exc | kts_exm | kit_is)
    (case t_Writes => first | k_is | k_exc | kts_exm | kit_is)
    (case x_Asked => first | k_is | k_exc | kts_exm | kit_is)
    (case k_Asked => first | k_is | k_exc | kts_exm | kit_is)
    (case s_Asked => first | k_is | k_exc | kts_exm | kit_is)
    (case t_Asked => first | k_is | k_exc | kts_exm | kit_is)
    (case e_BadName_RoomError => first | k_is | k_exc | kts_exm | kit_is)
    (case e_BadWish_RoomError => first | k_is | k_exc | kts_exm | kit_is)
    (case e_BadNumber_RoomError => first | k_is | k_exc | kts_exm | kit_is)
    (case e_Known_RoomError => first | k_is | k_exc | kts_exm | kit_is)
    (case e_Stranger_RoomError => first | k_is | k_exc | kts_exm | kit_is)
    (case e_Outside_RoomError => first | k_is | k_exc | kts_exm | kit_is)
    (case e_Inside_RoomError => first | k_is | k_exc | kts_exm | kit_is)
    (case e_Reads_RoomError => first | k_is | k_exc | kts_exm | kit_is)
    (case e_Writes_RoomError => first | k_is | k_exc | kts_exm | kit_is)
    (case e_Asked_RoomError => first | k_is | k_exc | kts_exm | kit_is)
    (case ecg_BadName => first | k_is | k_exc | kts_exm | kit_is)
    (case eck_BadName => first | k_is | k_exc | kts_exm | kit_is)
    (case ecs_BadName => first | k_is | k_exc | kts_exm | kit_is)
    (case ecd_BadName => first | k_is | k_exc | kts_exm | kit_is)
    (case eca_BadName => first | k_is | k_exc | kts_exm | kit_is)
    (case ecn_BadName => first | k_is | k_exc | kts_exm | kit_is)
    (case ect_BadName => first | k_is | k_exc | kts_exm | kit_is)
    (case ecm_BadName => first | k_is | k_exc | kts_exm | kit_is)
    (case i_BadName_BadName => first | k_is | k_exc | kts_exm | kit_is)
    (case i_BadName_BadWish => first | k_is | k_exc | kts_exm | kit_is)
    (case i_BadName_BadNumber => first | k_is | k_exc | kts_exm | kit_is)
    (case i_BadName_Known => first | k_is | k_exc | kts_exm | kit_is)
    (case i_BadName_Stranger => first | k_is | k_exc | kts_exm | kit_is)
    (case i_BadName_Outside => first | k_is | k_exc | kts_exm | kit_is)
    (case i_BadName_Inside => first | k_is | k_exc | kts_exm | kit_is)
    (case i_BadName_Reads => first | k_is | k_exc | kts_exm | kit_is)
    (case i_BadName_Writes => first | k_is | k_exc | kts_exm | kit_is)
    (case i_BadName_Asked => first | k_is | k_exc | kts_exm | kit_is)
    (case i_BadName_BadText => first | k_is | k_exc | kts_exm | kit_is)
    (case i_BadName_BadJournal => first | k_is | k_exc | kts_exm | kit_is)
    (case i_BadName_ValueError => first | k_is | k_exc | kts_exm | kit_is)
    (case ecg_BadWish => first | k_is | k_exc | kts_exm | kit_is)
    (case eck_BadWish => first | k_is | k_exc | kts_exm | kit_is)
    (case ecs_BadWish => first | k_is | k_exc | kts_exm | kit_is)
    (case ecd_BadWish => first | k_is | k_exc | kts_exm | kit_is)
    (case eca_BadWish => first | k_is | k_exc | kts_exm | kit_is)
    (case ecn_BadWish => first | k_is | k_exc | kts_exm | kit_is)
    (case ect_BadWish => first | k_is | k_exc | kts_exm | kit_is)
    (case ecm_BadWish => first | k_is | k_exc | kts_exm | kit_is)
    (case i_BadWish_BadName => first | k_is | k_exc | kts_exm | kit_is)
    (case i_BadWish_BadWish => first | k_is | k_exc | kts_exm | kit_is)
    (case i_BadWish_BadNumber => first | k_is | k_exc | kts_exm | kit_is)
    (case i_BadWish_Known => first | k_is | k_exc | kts_exm | kit_is)
    (case i_BadWish_Stranger => first | k_is | k_exc | kts_exm | kit_is)
    (case i_BadWish_Outside => first | k_is | k_exc | kts_exm | kit_is)
    (case i_BadWish_Inside => first | k_is | k_exc | kts_exm | kit_is)
    (case i_BadWish_Reads => first | k_is | k_exc | kts_exm | kit_is)
    (case i_BadWish_Writes => first | k_is | k_exc | kts_exm | kit_is)
    (case i_BadWish_Asked => first | k_is | k_exc | kts_exm | kit_is)
    (case i_BadWish_BadText => first | k_is | k_exc | kts_exm | kit_is)
    (case i_BadWish_BadJournal => first | k_is | k_exc | kts_exm | kit_is)
    (case i_BadWish_ValueError => first | k_is | k_exc | kts_exm | kit_is)
    (case ecg_Known => first | k_is | k_exc | kts_exm | kit_is)
    (case eck_Known => first | k_is | k_exc | kts_exm | kit_is)
    (case ecs_Known => first | k_is | k_exc | kts_exm | kit_is)
    (case ecd_Known => first | k_is | k_exc | kts_exm | kit_is)
    (case eca_Known => first | k_is | k_exc | kts_exm | kit_is)
    (case ecn_Known => first | k_is | k_exc | kts_exm | kit_is)
    (case ect_Known => first | k_is | k_exc | kts_exm | kit_is)
    (case ecm_Known => first | k_is | k_exc | kts_exm | kit_is)
    (case i_Known_BadName => first | k_is | k_exc | kts_exm | kit_is)
    (case i_Known_BadWish => first | k_is | k_exc | kts_exm | kit_is)
    (case i_Known_BadNumber => first | k_is | k_exc | kts_exm | kit_is)
    (case i_Known_Known => first | k_is | k_exc | kts_exm | kit_is)
    (case i_Known_Stranger => first | k_is | k_exc | kts_exm | kit_is)
    (case i_Known_Outside => first | k_is | k_exc | kts_exm | kit_is)
    (case i_Known_Inside => first | k_is | k_exc | kts_exm | kit_is)
    (case i_Known_Reads => first | k_is | k_exc | kts_exm | kit_is)
    (case i_Known_Writes => first | k_is | k_exc | kts_exm | kit_is)
    (case i_Known_Asked => first | k_is | k_exc | kts_exm | kit_is)
    (case i_Known_BadText => first | k_is | k_exc | kts_exm | kit_is)
    (case i_Known_BadJournal => first | k_is | k_exc | kts_exm | kit_is)
    (case i_Known_ValueError => first | k_is | k_exc | kts_exm | kit_is)
    (case ecg_Stranger => first | k_is | k_exc | kts_exm | kit_is)
    (case eck_Stranger => first | k_is | k_exc | kts_exm | kit_is)
    (case ecs_Stranger => first | k_is | k_exc | kts_exm | kit_is)
    (case ecd_Stranger => first | k_is | k_exc | kts_exm | kit_is)
    (case eca_Stranger => first | k_is | k_exc | kts_exm | kit_is)
    (case ecn_Stranger => first | k_is | k_exc | kts_exm | kit_is)
    (case ect_Stranger => first | k_is | k_exc | kts_exm | kit_is)
    (case ecm_Stranger => first | k_is | k_exc | kts_exm | kit_is)
    (case i_Stranger_BadName => first | k_is | k_exc | kts_exm | kit_is)
    (case i_Stranger_BadWish => first | k_is | k_exc | kts_exm | kit_is)
    (case i_Stranger_BadNumber => first | k_is | k_exc | kts_exm | kit_is)
    (case i_Stranger_Known => first | k_is | k_exc | kts_exm | kit_is)
    (case i_Stranger_Stranger => first | k_is | k_exc | kts_exm | kit_is)
    (case i_Stranger_Outside => first | k_is | k_exc | kts_exm | kit_is)
    (case i_Stranger_Inside => first | k_is | k_exc | kts_exm | kit_is)
    (case i_Stranger_Reads => first | k_is | k_exc | kts_exm | kit_is)
    (case i_Stranger_Writes => first | k_is | k_exc | kts_exm | kit_is)
    (case i_Stranger_Asked => first | k_is | k_exc | kts_exm | kit_is)
    (case i_Stranger_BadText => first | k_is | k_exc | kts_exm | kit_is)
    (case i_Stranger_BadJournal => first | k_is | k_exc | kts_exm | kit_is)
    (case i_Stranger_ValueError => first | k_is | k_exc | kts_exm | kit_is)
    (case ecg_Outside => first | k_is | k_exc | kts_exm | kit_is)
    (case eck_Outside => first | k_is | k_exc | kts_exm | kit_is)
    (case ecs_Outside => first | k_is | k_exc | kts_exm | kit_is)
    (case ecd_Outside => first | k_is | k_exc | kts_exm | kit_is)
    (case eca_Outside => first | k_is | k_exc | kts_exm | kit_is)
    (case ecn_Outside => first | k_is | k_exc | kts_exm | kit_is)
    (case ect_Outside => first | k_is | k_exc | kts_exm | kit_is)
    (case ecm_Outside => first | k_is | k_exc | kts_exm | kit_is)
    (case i_Outside_BadName => first | k_is | k_exc | kts_exm | kit_is)
    (case i_Outside_BadWish => first | k_is | k_exc | kts_exm | kit_is)
    (case i_Outside_BadNumber => first | k_is | k_exc | kts_exm | kit_is)
    (case i_Outside_Known => first | k_is | k_exc | kts_exm | kit_is)
    (case i_Outside_Stranger => first | k_is | k_exc | kts_exm | kit_is)
    (case i_Outside_Outside => first | k_is | k_exc | kts_exm | kit_is)
    (case i_Outside_Inside => first | k_is | k_exc | kts_exm | kit_is)
    (case i_Outside_Reads => first | k_is | k_exc | kts_exm | kit_is)
    (case i_Outside_Writes => first | k_is | k_exc | kts_exm | kit_is)
    (case i_Outside_Asked => first | k_is | k_exc | kts_exm | kit_is)
    (case i_Outside_BadText => first | k_is | k_exc | kts_exm | kit_is)
    (case i_Outside_BadJournal => first | k_is | k_exc | kts_exm | kit_is)
    (case i_Outside_ValueError => first | k_is | k_exc | kts_exm | kit_is)
    (case ecg_Inside => first | k_is | k_exc | kts_exm | kit_is)
    (case eck_Inside => first | k_is | k_exc | kts_exm | kit_is)
    (case ecs_Inside => first | k_is | k_exc | kts_exm | kit_is)
    (case ecd_Inside => first | k_is | k_exc | kts_exm | kit_is)
    (case eca_Inside => first | k_is | k_exc | kts_exm | kit_is)
    (case ecn_Inside => first | k_is | k_exc | kts_exm | kit_is)
    (case ect_Inside => first | k_is | k_exc | kts_exm | kit_is)
    (case ecm_Inside => first | k_is | k_exc | kts_exm | kit_is)
    (case i_Inside_BadName => first | k_is | k_exc | kts_exm | kit_is)
    (case i_Inside_BadWish => first | k_is | k_exc | kts_exm | kit_is)
    (case i_Inside_BadNumber => first | k_is | k_exc | kts_exm | kit_is)
    (case i_Inside_Known => first | k_is | k_exc | kts_exm | kit_is)
    (case i_Inside_Stranger => first | k_is | k_exc | kts_exm | kit_is)
    (case i_Inside_Outside => first | k_is | k_exc | kts_exm | kit_is)
    (case i_Inside_Inside => first | k_is | k_exc | kts_exm | kit_is)
    (case i_Inside_Reads => first | k_is | k_exc | kts_exm | kit_is)
    (case i_Inside_Writes => first | k_is | k_exc | kts_exm | kit_is)
    (case i_Inside_Asked => first | k_is | k_exc | kts_exm | kit_is)
    (case i_Inside_BadText => first | k_is | k_exc | kts_exm | kit_is)
    (case i_Inside_BadJournal => first | k_is | k_exc | kts_exm | kit_is)
    (case i_Inside_ValueError => first | k_is | k_exc | kts_exm | kit_is)
    (case ecg_Reads => first | k_is | k_exc | kts_exm | kit_is)
    (case eck_Reads => first | k_is | k_exc | kts_exm | kit_is)
    (case ecs_Reads => first | k_is | k_exc | kts_exm | kit_is)
    (case ecd_Reads => first | k_is | k_exc | kts_exm | kit_is)
    (case eca_Reads => first | k_is | k_exc | kts_exm | kit_is)
    (case ecn_Reads => first | k_is | k_exc | kts_exm | kit_is)
    (case ect_Reads => first | k_is | k_exc | kts_exm | kit_is)
    (case ecm_Reads => first | k_is | k_exc | kts_exm | kit_is)
    (case i_Reads_BadName => first | k_is | k_exc | kts_exm | kit_is)
    (case i_Reads_BadWish => first | k_is | k_exc | kts_exm | kit_is)
    (case i_Reads_BadNumber => first | k_is | k_exc | kts_exm | kit_is)
    (case i_Reads_Known => first | k_is | k_exc | kts_exm | kit_is)
    (case i_Reads_Stranger => first | k_is | k_exc | kts_exm | kit_is)
    (case i_Reads_Outside => first | k_is | k_exc | kts_exm | kit_is)
    (case i_Reads_Inside => first | k_is | k_exc | kts_exm | kit_is)
    (case i_Reads_Reads => first | k_is | k_exc | kts_exm | kit_is)
    (case i_Reads_Writes => first | k_is | k_exc | kts_exm | kit_is)
    (case i_Reads_Asked => first | k_is | k_exc | kts_exm | kit_is)
    (case i_Reads_BadText => first | k_is | k_exc | kts_exm | kit_is)
    (case i_Reads_BadJournal => first | k_is | k_exc | kts_exm | kit_is)
    (case i_Reads_ValueError => first | k_is | k_exc | kts_exm | kit_is)
    (case ecg_Writes => first | k_is | k_exc | kts_exm | kit_is)
    (case eck_Writes => first | k_is | k_exc | kts_exm | kit_is)
    (case ecs_Writes => first | k_is | k_exc | kts_exm | kit_is)
    (case ecd_Writes => first | k_is | k_exc | kts_exm | kit_is)
    (case eca_Writes => first | k_is | k_exc | kts_exm | kit_is)
    (case ecn_Writes => first | k_is | k_exc | kts_exm | kit_is)
    (case ect_Writes => first | k_is | k_exc | kts_exm | kit_is)
    (case ecm_Writes => first | k_is | k_exc | kts_exm | kit_is)
    (case i_Writes_BadName => first | k_is | k_exc | kts_exm | kit_is)
    (case i_Writes_BadWish => first | k_is | k_exc | kts_exm | kit_is)
    (case i_Writes_BadNumber => first | k_is | k_exc | kts_exm | kit_is)
    (case i_Writes_Known => first | k_is | k_exc | kts_exm | kit_is)
    (case i_Writes_Stranger => first | k_is | k_exc | kts_exm | kit_is)
    (case i_Writes_Outside => first | k_is | k_exc | kts_exm | kit_is)
    (case i_Writes_Inside => first | k_is | k_exc | kts_exm | kit_is)
    (case i_Writes_Reads => first | k_is | k_exc | kts_exm | kit_is)
    (case i_Writes_Writes => first | k_is | k_exc | kts_exm | kit_is)
    (case i_Writes_Asked => first | k_is | k_exc | kts_exm | kit_is)
    (case i_Writes_BadText => first | k_is | k_exc | kts_exm | kit_is)
    (case i_Writes_BadJournal => first | k_is | k_exc | kts_exm | kit_is)
    (case i_Writes_ValueError => first | k_is | k_exc | kts_exm | kit_is)
    (case ecg_Asked => first | k_is | k_exc | kts_exm | kit_is)
    (case eck_Asked => first | k_is | k_exc | kts_exm | kit_is)
    (case ecs_Asked => first | k_is | k_exc | kts_exm | kit_is)
    (case ecd_Asked => first | k_is | k_exc | kts_exm | kit_is)
    (case eca_Asked => first | k_is | k_exc | kts_exm | kit_is)
    (case ecn_Asked => first | k_is | k_exc | kts_exm | kit_is)
    (case ect_Asked => first | k_is | k_exc | kts_exm | kit_is)
    (case ecm_Asked => first | k_is | k_exc | kts_exm | kit_is)
    (case i_Asked_BadName => first | k_is | k_exc | kts_exm | kit_is)
    (case i_Asked_BadWish => first | k_is | k_exc | kts_exm | kit_is)
    (case i_Asked_BadNumber => first | k_is | k_exc | kts_exm | kit_is)
    (case i_Asked_Known => first | k_is | k_exc | kts_exm | kit_is)
    (case i_Asked_Stranger => first | k_is | k_exc | kts_exm | kit_is)
    (case i_Asked_Outside => first | k_is | k_exc | kts_exm | kit_is)
    (case i_Asked_Inside => first | k_is | k_exc | kts_exm | kit_is)
    (case i_Asked_Reads => first | k_is | k_exc | kts_exm | kit_is)
    (case i_Asked_Writes => first | k_is | k_exc | kts_exm | kit_is)
    (case i_Asked_Asked => first | k_is | k_exc | kts_exm | kit_is)
    (case i_Asked_BadText => first | k_is | k_exc | kts_exm | kit_is)
    (case i_Asked_BadJournal => first | k_is | k_exc | kts_exm | kit_is)
    (case i_Asked_ValueError => first | k_is | k_exc | kts_exm | kit_is)
    (case z_ValueError => first | k_is | k_exc | kts_exm | kit_is)
    (case z_bool => first | k_is | k_exc | kts_exm | kit_is)
    (case z_enumerate => first | k_is | k_exc | kts_exm | kit_is)
    (case z_int => first | k_is | k_exc | kts_exm | kit_is)
    (case z_isinstance => first | k_is | k_exc | kts_exm | kit_is)
    (case z_len => first | k_is | k_exc | kts_exm | kit_is)
    (case z_list => first | k_is | k_exc | kts_exm | kit_is)
    (case z_range => first | k_is | k_exc | kts_exm | kit_is)
    (case z_str => first | k_is | k_exc | kts_exm | kit_is)
    (case z_sum => first | k_is | k_exc | kts_exm | kit_is)
    (case v_LONGEST => first | k_is | k_exc | kts_exm | kit_is)
    (case v_MOST => first | k_is | k_exc | kts_exm | kit_is)
    (case v_SIGNS => first | k_is | k_exc | kts_exm | kit_is)
    (case aCRoom => first | k_is | k_exc | kts_exm | kit_is)
    (case pg => first | k_is | k_exc | kts_exm | kit_is)
    (case hd => first | k_is | k_exc | kts_exm | kit_is)
    (case po => first | k_is | k_exc | kts_exm | kit_is)
    (case sa => first | k_is | k_exc | kts_exm | kit_is)
    (case mk => first | k_is | k_exc | kts_exm | kit_is)
    (case kc => first | k_is | k_exc | kts_exm | kit_is)
    (case no_alone => first | k_is | k_exc | kts_exm | kit_is)
    (case no_asking => first | k_is | k_exc | kts_exm | kit_is)
    (case no_patience => first | k_is | k_exc | kts_exm | kit_is)
    (case no_reading => first | k_is | k_exc | kts_exm | kit_is)
    (case no_rows => first | k_is | k_exc | kts_exm | kit_is)
    (case no_seats => first | k_is | k_exc | kts_exm | kit_is)
    (case no_waiting => first | k_is | k_exc | kts_exm | kit_is)
    (case a_l_people => first | k_is | k_exc | kts_exm | kit_is)
    (case l_l_people => first | k_is | k_exc | kts_exm | kit_is)
    (case c_l_people => first | k_is | k_exc | kts_exm | kit_is)
    (case kf_l_people => first | k_is | k_exc | kts_exm | kit_is)
    (case a_l_cell_at => first | k_is | k_exc | kts_exm | kit_is)
    (case l_l_cell_at => first | k_is | k_exc | kts_exm | kit_is)
    (case c_l_cell_at => first | k_is | k_exc | kts_exm | kit_is)
    (case kf_l_cell_at => first | k_is | k_exc | kts_exm | kit_is)
    (case a_l_no_name => first | k_is | k_exc | kts_exm | kit_is)
    (case l_l_no_name => first | k_is | k_exc | kts_exm | kit_is)
    (case c_l_no_name => first | k_is | k_exc | kts_exm | kit_is)
    (case kf_l_no_name => first | k_is | k_exc | kts_exm | kit_is)
    (case a_l_no_wish => first | k_is | k_exc | kts_exm | kit_is)
    (case l_l_no_wish => first | k_is | k_exc | kts_exm | kit_is)
    (case c_l_no_wish => first | k_is | k_exc | kts_exm | kit_is)
    (case kf_l_no_wish => first | k_is | k_exc | kts_exm | kit_is)
    (case a_is_number => first | k_is | k_exc | kts_exm | kit_is)
    (case l_is_number => first | k_is | k_exc | kts_exm | kit_is)
    (case c_is_number => first | k_is | k_exc | kts_exm | kit_is)
    (case kf_is_number => first | k_is | k_exc | kts_exm | kit_is)
    (case a_room_init => first | k_is | k_exc | kts_exm | kit_is)
    (case i_room_init => first | k_is | k_exc | kts_exm | kit_is)
    (case l_room_init => first | k_is | k_exc | kts_exm | kit_is)
    (case c_room_init => first | k_is | k_exc | kts_exm | kit_is)
    (case kf_room_init => first | k_is | k_exc | kts_exm | kit_is)
    (case a_is_name => first | k_is | k_exc | kts_exm | kit_is)
    (case l_is_name => first | k_is | k_exc | kts_exm | kit_is)
    (case c_is_name => first | k_is | k_exc | kts_exm | kit_is)
    (case kf_is_name => first | k_is | k_exc | kts_exm | kit_is)
    (case a_is_wish => first | k_is | k_exc | kts_exm | kit_is)
    (case l_is_wish => first | k_is | k_exc | kts_exm | kit_is)
    (case c_is_wish => first | k_is | k_exc | kts_exm | kit_is)
    (case kf_is_wish => first | k_is | k_exc | kts_exm | kit_is)
    (case a_room_is_waiting => first | k_is | k_exc | kts_exm | kit_is)
    (case i_room_is_waiting => first | k_is | k_exc | kts_exm | kit_is)
    (case l_room_is_waiting => first | k_is | k_exc | kts_exm | kit_is)
    (case c_room_is_waiting => first | k_is | k_exc | kts_exm | kit_is)
    (case kf_room_is_waiting => first | k_is | k_exc | kts_exm | kit_is)
    (case a_room_is_inside => first | k_is | k_exc | kts_exm | kit_is)
    (case i_room_is_inside => first | k_is | k_exc | kts_exm | kit_is)
    (case l_room_is_inside => first | k_is | k_exc | kts_exm | kit_is)
    (case c_room_is_inside => first | k_is | k_exc | kts_exm | kit_is)
    (case kf_room_is_inside => first | k_is | k_exc | kts_exm | kit_is)
    (case a_can_begin => first | k_is | k_exc | kts_exm | kit_is)
    (case l_can_begin => first | k_is | k_exc | kts_exm | kit_is)
    (case c_can_begin => first | k_is | k_exc | kts_exm | kit_is)
    (case kf_can_begin => first | k_is | k_exc | kts_exm | kit_is)
    (case a_first_reader => first | k_is | k_exc | kts_exm | kit_is)
    (case l_first_reader => first | k_is | k_exc | kts_exm | kit_is)
    (case c_first_reader => first | k_is | k_exc | kts_exm | kit_is)
    (case kf_first_reader => first | k_is | k_exc | kts_exm | kit_is)
    (case a_next_place => first | k_is | k_exc | kts_exm | kit_is)
    (case l_next_place => first | k_is | k_exc | kts_exm | kit_is)
    (case c_next_place => first | k_is | k_exc | kts_exm | kit_is)
    (case kf_next_place => first | k_is | k_exc | kts_exm | kit_is)
    (case a_room_begun => first | k_is | k_exc | kts_exm | kit_is)
    (case i_room_begun => first | k_is | k_exc | kts_exm | kit_is)
    (case l_room_begun => first | k_is | k_exc | kts_exm | kit_is)
    (case c_room_begun => first | k_is | k_exc | kts_exm | kit_is)
    (case kf_room_begun => first | k_is | k_exc | kts_exm | kit_is)
    (case a_room_settled => first | k_is | k_exc | kts_exm | kit_is)
    (case i_room_settled => first | k_is | k_exc | kts_exm | kit_is)
    (case l_room_settled => first | k_is | k_exc | kts_exm | kit_is)
    (case c_room_settled => first | k_is | k_exc | kts_exm | kit_is)
    (case kf_room_settled => first | k_is | k_exc | kts_exm | kit_is)
    (case a_room_come => first | k_is | k_exc | kts_exm | kit_is)
    (case i_room_come => first | k_is | k_exc | kts_exm | kit_is)
    (case l_room_come => first | k_is | k_exc | kts_exm | kit_is)
    (case c_room_come => first | k_is | k_exc | kts_exm | kit_is)
    (case kf_room_come => first | k_is | k_exc | kts_exm | kit_is)
    (case a_room_look => first | k_is | k_exc | kts_exm | kit_is)
    (case i_room_look => first | k_is | k_exc | kts_exm | kit_is)
    (case l_room_look => first | k_is | k_exc | kts_exm | kit_is)
    (case c_room_look => first | k_is | k_exc | kts_exm | kit_is)
    (case kf_room_look => first | k_is | k_exc | kts_exm | kit_is)
    (case a_room_ask => first | k_is | k_exc | kts_exm | kit_is)
    (case i_room_ask => first | k_is | k_exc | kts_exm | kit_is)
    (case l_room_ask => first | k_is | k_exc | kts_exm | kit_is)
    (case c_room_ask => first | k_is | k_exc | kts_exm | kit_is)
    (case kf_room_ask => first | k_is | k_exc | kts_exm | kit_is)
    (case a_l_room => first | k_is | k_exc | kts_exm | kit_is)
    (case l_l_room => first | k_is | k_exc | kts_exm | kit_is)
    (case c_l_room => first | k_is | k_exc | kts_exm | kit_is)
    (case kf_l_room => first | k_is | k_exc | kts_exm | kit_is)
    (case a_room_journal => first | k_is | k_exc | kts_exm | kit_is)
    (case i_room_journal => first | k_is | k_exc | kts_exm | kit_is)
    (case l_room_journal => first | k_is | k_exc | kts_exm | kit_is)
    (case c_room_journal => first | k_is | k_exc | kts_exm | kit_is)
    (case kf_room_journal => first | k_is | k_exc | kts_exm | kit_is)
    (case a_room_line => first | k_is | k_exc | kts_exm | kit_is)
    (case i_room_line => first | k_is | k_exc | kts_exm | kit_is)
    (case l_room_line => first | k_is | k_exc | kts_exm | kit_is)
    (case c_room_line => first | k_is | k_exc | kts_exm | kit_is)
    (case kf_room_line => first | k_is | k_exc | kts_exm | kit_is)
    (case a_room_asker => first | k_is | k_exc | kts_exm | kit_is)
    (case i_room_asker => first | k_is | k_exc | kts_exm | kit_is)
    (case l_room_asker => first | k_is | k_exc | kts_exm | kit_is)
    (case c_room_asker => first | k_is | k_exc | kts_exm | kit_is)
    (case kf_room_asker => first | k_is | k_exc | kts_exm | kit_is)
    (case a_room_writer => first | k_is | k_exc | kts_exm | kit_is)
    (case i_room_writer => first | k_is | k_exc | kts_exm | kit_is)
    (case l_room_writer => first | k_is | k_exc | kts_exm | kit_is)
    (case c_room_writer => first | k_is | k_exc | kts_exm | kit_is)
    (case kf_room_writer => first | k_is | k_exc | kts_exm | kit_is)
    (case a_room_readers => first | k_is | k_exc | kts_exm | kit_is)
    (case i_room_readers => first | k_is | k_exc | kts_exm | kit_is)
    (case l_room_readers => first | k_is | k_exc | kts_exm | kit_is)
    (case c_room_readers => first | k_is | k_exc | kts_exm | kit_is)
    (case kf_room_readers => first | k_is | k_exc | kts_exm | kit_is)
    (case a_l_state => first | k_is | k_exc | kts_exm | kit_is)
    (case l_l_state => first | k_is | k_exc | kts_exm | kit_is)
    (case c_l_state => first | k_is | k_exc | kts_exm | kit_is)
    (case kf_l_state => first | k_is | k_exc | kts_exm | kit_is)
    (case a_l_due => first | k_is | k_exc | kts_exm | kit_is)
    (case l_l_due => first | k_is | k_exc | kts_exm | kit_is)
    (case c_l_due => first | k_is | k_exc | kts_exm | kit_is)
    (case kf_l_due => first | k_is | k_exc | kts_exm | kit_is)
    (case a_room_leave => first | k_is | k_exc | kts_exm | kit_is)
    (case i_room_leave => first | k_is | k_exc | kts_exm | kit_is)
    (case l_room_leave => first | k_is | k_exc | kts_exm | kit_is)
    (case c_room_leave => first | k_is | k_exc | kts_exm | kit_is)
    (case kf_room_leave => first | k_is | k_exc | kts_exm | kit_is)
    (case a_room_ease => first | k_is | k_exc | kts_exm | kit_is)
    (case i_room_ease => first | k_is | k_exc | kts_exm | kit_is)
    (case l_room_ease => first | k_is | k_exc | kts_exm | kit_is)
    (case c_room_ease => first | k_is | k_exc | kts_exm | kit_is)
    (case kf_room_ease => first | k_is | k_exc | kts_exm | kit_is)
    (case a_room_passed => first | k_is | k_exc | kts_exm | kit_is)
    (case i_room_passed => first | k_is | k_exc | kts_exm | kit_is)
    (case l_room_passed => first | k_is | k_exc | kts_exm | kit_is)
    (case c_room_passed => first | k_is | k_exc | kts_exm | kit_is)
    (case kf_room_passed => first | k_is | k_exc | kts_exm | kit_is)
    (case a_l_whole => first | k_is | k_exc | kts_exm | kit_is)
    (case l_l_whole => first | k_is | k_exc | kts_exm | kit_is)
    (case c_l_whole => first | k_is | k_exc | kts_exm | kit_is)
    (case kf_l_whole => first | k_is | k_exc | kts_exm | kit_is)
    (case a_l_kinds => first | k_is | k_exc | kts_exm | kit_is)
    (case l_l_kinds => first | k_is | k_exc | kts_exm | kit_is)
    (case c_l_kinds => first | k_is | k_exc | kts_exm | kit_is)
    (case kf_l_kinds => first | k_is | k_exc | kts_exm | kit_is)
    (case a_l_tried => first | k_is | k_exc | kts_exm | kit_is)
    (case l_l_tried => first | k_is | k_exc | kts_exm | kit_is)
    (case c_l_tried => first | k_is | k_exc | kts_exm | kit_is)
    (case kf_l_tried => first | k_is | k_exc | kts_exm | kit_is)
    (case a_law => first | k_is | k_exc | kts_exm | kit_is)
    (case l_law => first | k_is | k_exc | kts_exm | kit_is)
    (case c_law => first | k_is | k_exc | kts_exm | kit_is)
    (case kf_law => first | k_is | k_exc | kts_exm | kit_is)

