import PyProof.Rows.All
import PySem.Challenge.RW_saveclash_k80_whole_texts_and_what_is_no
import Wide.All
import OpenK.AllK
import Wide.FinOn
import HandS.ForMost
import HandS.Walk
import HandS.Zip
import HandS.Star
import HandS.TupAny
import HandS.Flow
import HandS.IsInst
import HandS.NoneIn
import HandS.Defaults
import HandS.Set
import HandS.Strs
import HandS.SetTxt0
import HandS.TupSets
import PyProof.Rows.SortShellAny
import HandS.Text
import HandS.Style
import PyProof.StrOps2
import KE.KDictCopyH
import HandS.Dict
import KE.KExcSuper
import KE.KSuper
import HandS.Exc
import HandS.ExcSuper
import HandS.TryMany
import HandS.ExcIs
import HandS.ExcField
import HandS.HeadWalk
import KE.KTryMore
import KE.KExcIs
import HandS.ExcOwn
import HandS.WordsExc
import HandS.Conv
import HandS.Head0
import HandS.Head1
import HandS.Head2
import HandS.HeadEnd
import HandS.HeadHook1
import HandS.HeadHook2
import HandS.HeadHook3
import HandS.HeadHook4
/-! part D1 -/
set_option Elab.async false
set_option linter.all false
set_option maxRecDepth 100000
set_option maxHeartbeats 4000000
/-! The data layer: values told as PyData, over the hand layer. -/
namespace Sv
open PySem PySem.Spec PyProof.Rows L2

/-! ### values that stand for data; B: addresses that none of it may use -/
mutual
inductive Rp (B : List Addr) (H : Hp) : V → PyData → Prop
  | non : Rp B H .non .none
  | bl (b : Bool) : Rp B H (.bl b) (.bool b)
  | int (i : Int) : Rp B H (.int i) (.int i)
  | str (x : Str) : Rp B H (.str x) (.str x)
  | lst {a : Addr} {xs : List V} {ds : List PyData} : H a = some (.lst xs) → a ∉ B → Rps B H xs ds → Rp B H (.ref a) (.list ds)
  | tup {a : Addr} {xs : List V} {ds : List PyData} : Rd H a (.tup xs) → a ∉ B → Rps B H xs ds → Rp B H (.ref a) (.tuple ds)
inductive Rps (B : List Addr) (H : Hp) : List V → List PyData → Prop
  | nil : Rps B H [] []
  | cons {v : V} {vs : List V} {d : PyData} {ds : List PyData} : Rp B H v d → Rps B H vs ds → Rps B H (v :: vs) (d :: ds)
end
/-- what stands outside B stays -/
def Keep (B : List Addr) (H H' : Hp) : Prop := ∀ b o, b ∉ B → H b = some o → H' b = some o
theorem Keep.of {B : List Addr} {H H' : Hp} (h : Same H H') : Keep B H H' := fun b o _ e => h b o e
theorem Keep.rd {B : List Addr} {H H' : Hp} {a : Addr} {u : HO} (k : Keep B H H') (hb : a ∉ B) (r : Rd H a u) : Rd H' a u := by
  rcases r with r | ⟨o, r⟩
  · exact .inl (k a _ hb r)
  · exact .inr ⟨o, k a _ hb r⟩
theorem Keep.trans {B : List Addr} {H H1 H2 : Hp} (a : Keep B H H1) (b : Keep B H1 H2) : Keep B H H2 := fun c o n e => b c o n (a c o n e)
theorem Keep.sub {B B' : List Addr} {H H' : Hp} (k : Keep B H H') (h : ∀ b ∈ B, b ∈ B') : Keep B' H H' := fun b o n e => k b o (fun z => n (h b z)) e
section
variable {B B' : List Addr} {H H' : Hp}
mutual
theorem Rp.keep (k : Keep B H H') : ∀ {v d}, Rp B H v d → Rp B H' v d
  | _, _, .non => .non
  | _, _, .bl b => .bl b
  | _, _, .int i => .int i
  | _, _, .str x => .str x
  | _, _, .lst r n s => .lst (k _ _ n r) n (Rps.keep k s)
  | _, _, .tup r n s => .tup (k.rd n r) n (Rps.keep k s)
theorem Rps.keep (k : Keep B H H') : ∀ {vs ds}, Rps B H vs ds → Rps B H' vs ds
  | _, _, .nil => .nil
  | _, _, .cons r s => .cons (Rp.keep k r) (Rps.keep k s)
end
mutual
/-- fewer forbidden addresses, or further ones that nothing stands at -/
theorem Rp.forb (k : ∀ b ∈ B', b ∈ B ∨ H b = none) : ∀ {v d}, Rp B H v d → Rp B' H v d
  | _, _, .non => .non
  | _, _, .bl b => .bl b
  | _, _, .int i => .int i
  | _, _, .str x => .str x
  | _, _, .lst r n s => .lst r (fun z => by
      rcases k _ z with q | q
      · exact n q
      · rw [q] at r; cases r) (Rps.forb k s)
  | _, _, .tup r n s => .tup r (fun z => by
      rcases k _ z with q | q
      · exact n q
      · rcases r with r | ⟨o, r⟩ <;> rw [q] at r <;> cases r) (Rps.forb k s)
theorem Rps.forb (k : ∀ b ∈ B', b ∈ B ∨ H b = none) : ∀ {vs ds}, Rps B H vs ds → Rps B' H vs ds
  | _, _, .nil => .nil
  | _, _, .cons r s => .cons (Rp.forb k r) (Rps.forb k s)
end
theorem Rp.same (k : Same H H') {v d} (r : Rp B H v d) : Rp B H' v d := r.keep (Keep.of k)
theorem Rps.same (k : Same H H') {v d} (r : Rps B H v d) : Rps B H' v d := r.keep (Keep.of k)
theorem Rp.new {p : Addr} (h : H p = none) {v d} (r : Rp B H v d) : Rp (p :: B) H v d := r.forb fun b hb => by
  rcases List.mem_cons.mp hb with e | e
  · exact .inr (e ▸ h)
  · exact .inl e
theorem Rps.new {p : Addr} (h : H p = none) {v d} (r : Rps B H v d) : Rps (p :: B) H v d := r.forb fun b hb => by
  rcases List.mem_cons.mp hb with e | e
  · exact .inr (e ▸ h)
  · exact .inl e
theorem Rp.less {p : Addr} {v d} (r : Rp (p :: B) H v d) : Rp B H v d := r.forb fun b hb => .inl (List.mem_cons_of_mem _ hb)
theorem Rps.less {p : Addr} {v d} (r : Rps (p :: B) H v d) : Rps B H v d := r.forb fun b hb => .inl (List.mem_cons_of_mem _ hb)
theorem Rps.length : ∀ {vs ds}, Rps B H vs ds → vs.length = ds.length
  | _, _, .nil => rfl
  | _, _, .cons _ s => congrArg Nat.succ (Rps.length s)
theorem Rps.get : ∀ {vs : List V} {ds : List PyData} {i : Nat} {d : PyData}, Rps B H vs ds → ds[i]? = some d → ∃ v, vs[i]? = some v ∧ Rp B H v d
  | _, _, _, _, .nil, e => by simp at e
  | _, _, 0, _, .cons r _, e => by
    simp at e
    subst e
    exact ⟨_, rfl, r⟩
  | _, _, i + 1, d, .cons _ s, e => by
    obtain ⟨v, h1, h2⟩ := Rps.get (i := i) (d := d) s (by simpa using e)
    exact ⟨v, by simpa using h1, h2⟩
theorem Rps.at_ : ∀ {vs : List V} {ds : List PyData} {i : Nat} {v : V}, Rps B H vs ds → vs[i]? = some v → ∃ d, ds[i]? = some d ∧ Rp B H v d
  | _, _, _, _, .nil, e => by simp at e
  | _, _, 0, _, .cons r _, e => by
    simp at e
    subst e
    exact ⟨_, rfl, r⟩
  | _, _, i + 1, d, .cons _ s, e => by
    obtain ⟨v, h1, h2⟩ := Rps.at_ (i := i) (v := d) s (by simpa using e)
    exact ⟨v, by simpa using h1, h2⟩
theorem Rps.append : ∀ {vs ws : List V} {ds es : List PyData}, Rps B H vs ds → Rps B H ws es → Rps B H (vs ++ ws) (ds ++ es)
  | _, _, _, _, .nil, s => s
  | _, _, _, _, .cons r t, s => .cons r (Rps.append t s)
theorem Rps.take : ∀ {vs : List V} {ds : List PyData} (n : Nat), Rps B H vs ds → Rps B H (vs.take n) (ds.take n)
  | _, _, 0, _ => .nil
  | _, _, _ + 1, .nil => .nil
  | _, _, n + 1, .cons r s => .cons r (Rps.take n s)
theorem Rps.drop : ∀ {vs : List V} {ds : List PyData} (n : Nat), Rps B H vs ds → Rps B H (vs.drop n) (ds.drop n)
  | _, _, 0, r => r
  | _, _, _ + 1, .nil => .nil
  | _, _, n + 1, .cons _ s => Rps.drop n s
theorem Rps.one {v d} (r : Rp B H v d) : Rps B H [v] [d] := .cons r .nil
theorem Rps.str : ∀ (xs : List Str), Rps B H (xs.map V.str) (xs.map PyData.str)
  | [] => .nil
  | x :: xs => .cons (.str x) (Rps.str xs)
theorem Rps.int : ∀ (xs : List Int), Rps B H (xs.map V.int) (xs.map PyData.int)
  | [] => .nil
  | x :: xs => .cons (.int x) (Rps.int xs)
theorem Rps.bl : ∀ (xs : List Bool), Rps B H (xs.map V.bl) (xs.map PyData.bool)
  | [] => .nil
  | x :: xs => .cons (.bl x) (Rps.bl xs)
theorem Rps.strs : ∀ {xs : List Str} {vs : List V}, Rps B H vs (xs.map PyData.str) → vs = xs.map V.str
  | [], _, .nil => rfl
  | x :: xs, _, .cons r s => by
    cases r
    rw [Rps.strs s]
    rfl
theorem Rps.ints : ∀ {xs : List Int} {vs : List V}, Rps B H vs (xs.map PyData.int) → vs = xs.map V.int
  | [], _, .nil => rfl
  | x :: xs, _, .cons r s => by
    cases r
    rw [Rps.ints s]
    rfl
theorem Rps.bls : ∀ {xs : List Bool} {vs : List V}, Rps B H vs (xs.map PyData.bool) → vs = xs.map V.bl
  | [], _, .nil => rfl
  | x :: xs, _, .cons r s => by
    cases r
    rw [Rps.bls s]
    rfl
mutual
theorem Rp.dp {K : PySem.W.Frag} : ∀ {v d}, Rp B H v d → Dp K H v d
  | _, _, .non => .non
  | _, _, .bl b => .bl b
  | _, _, .int i => .int i
  | _, _, .str x => .str x
  | _, _, .lst r n s => .lst (.inl (.inl r)) (Rps.dp s)
  | _, _, .tup r n s => .tup (.inl r) (Rps.dp s)
theorem Rps.dp {K : PySem.W.Frag} : ∀ {vs ds}, Rps B H vs ds → DpAll K H vs ds
  | _, _, .nil => .nil
  | _, _, .cons r s => .cons (Rp.dp r) (Rps.dp s)
end
end
/-! ### the slots -/
inductive Er (B : List Addr) (H : Hp) : List (Option PyData) → L2.St → Prop
  | nil : Er B H [] []
  | no {x : Option V} {r : List (Option PyData)} {s : L2.St} : Er B H r s → Er B H (none :: r) (x :: s)
  | so {v : V} {d : PyData} {r : List (Option PyData)} {s : L2.St} : Rp B H v d → Er B H r s → Er B H (some d :: r) (some v :: s)
section
variable {B B' : List Addr} {H H' : Hp}
theorem Er.keep (k : Keep B H H') : ∀ {r s}, Er B H r s → Er B H' r s
  | _, _, .nil => .nil
  | _, _, .no t => .no (Er.keep k t)
  | _, _, .so q t => .so (q.keep k) (Er.keep k t)
theorem Er.forb (k : ∀ b ∈ B', b ∈ B ∨ H b = none) : ∀ {r s}, Er B H r s → Er B' H r s
  | _, _, .nil => .nil
  | _, _, .no t => .no (Er.forb k t)
  | _, _, .so q t => .so (q.forb k) (Er.forb k t)
theorem Er.same (k : Same H H') {r s} (e : Er B H r s) : Er B H' r s := e.keep (Keep.of k)
theorem Er.new {p : Addr} (h : H p = none) {v d} (r : Er B H v d) : Er (p :: B) H v d := r.forb fun b hb => by
  rcases List.mem_cons.mp hb with e | e
  · exact .inr (e ▸ h)
  · exact .inl e
theorem Er.less {p : Addr} {v d} (r : Er (p :: B) H v d) : Er B H v d := r.forb fun b hb => .inl (List.mem_cons_of_mem _ hb)
theorem Er.get : ∀ {r : List (Option PyData)} {s : L2.St} {i : Nat} {d : PyData}, Er B H r s → r[i]? = some (some d) → ∃ v, s[i]? = some (some v) ∧ Rp B H v d
  | _, _, _, _, .nil, e => by simp at e
  | _, _, 0, _, .no _, e => by simp at e
  | _, _, 0, _, .so q _, e => by
    simp at e
    subst e
    exact ⟨_, rfl, q⟩
  | _, _, i + 1, d, .no t, e => by
    obtain ⟨v, h1, h2⟩ := Er.get (i := i) (d := d) t (by simpa using e)
    exact ⟨v, by simpa using h1, h2⟩
  | _, _, i + 1, d, .so _ t, e => by
    obtain ⟨v, h1, h2⟩ := Er.get (i := i) (d := d) t (by simpa using e)
    exact ⟨v, by simpa using h1, h2⟩
theorem Er.set {v : V} {d : PyData} (q : Rp B H v d) : ∀ {r : List (Option PyData)} {s : L2.St} (i : Nat), Er B H r s → Er B H (r.set i (some d)) (s.set i (some v))
  | _, _, _, .nil => .nil
  | _, _, 0, .no t => .so q t
  | _, _, 0, .so _ t => .so q t
  | _, _, i + 1, .no t => .no (Er.set q i t)
  | _, _, i + 1, .so q' t => .so q' (Er.set q i t)
theorem Er.unset : ∀ {r : List (Option PyData)} {s : L2.St} (i : Nat) (x : Option V), Er B H r s → Er B H (r.set i none) (s.set i x)
  | _, _, _, _, .nil => .nil
  | _, _, 0, _, .no t => .no t
  | _, _, 0, _, .so _ t => .no t
  | _, _, i + 1, x, .no t => .no (Er.unset i x t)
  | _, _, i + 1, x, .so q' t => .so q' (Er.unset i x t)
def wipeD (r : List (Option PyData)) : List Nat → List (Option PyData)
  | [] => r
  | v :: vs => (wipeD r vs).set v none
theorem Er.wipe {r : List (Option PyData)} {s : L2.St} (e : Er B H r s) : ∀ vs : List Nat, Er B H (wipeD r vs) (L2.wipe s vs)
  | [] => e
  | v :: vs => (Er.wipe e vs).unset v none
theorem Er.length : ∀ {r : List (Option PyData)} {s : L2.St}, Er B H r s → s.length = r.length
  | _, _, .nil => rfl
  | _, _, .no t => congrArg Nat.succ (Er.length t)
  | _, _, .so _ t => congrArg Nat.succ (Er.length t)
end
end Sv
/-! part D2 -/
set_option Elab.async false
set_option linter.all false
set_option maxRecDepth 100000
set_option maxHeartbeats 4000000
namespace Sv
open PySem PySem.Spec PyProof.Rows L2

/-! ### what is forbidden is tracked -/
def Dom (B : List Addr) (H : Hp) : Prop := ∀ b ∈ B, H b ≠ none
section
variable {B : List Addr} {H H' : Hp}
theorem Dom.nil : Dom [] H := fun _ h => nomatch h
theorem Dom.same (d : Dom B H) (s : Same H H') : Dom B H' := fun b hb e => by
  cases q : H b with
  | none => exact d b hb q
  | some o => rw [s b o q] at e; cases e
theorem Dom.out (d : Dom B H) {p : Addr} (h : H p = none) : p ∉ B := fun z => d p z h
theorem Dom.upd (d : Dom B H) {p : Addr} {o : HO} : Dom B (upd H p o) := fun b hb e => by
  by_cases z : b = p
  · subst z; rw [upd_same] at e; cases e
  · rw [upd_ne z] at e; exact d b hb e
theorem Dom.cons (d : Dom B H) {p : Addr} {o : HO} (h : H p = some o) : Dom (p :: B) H := fun b hb e => by
  rcases List.mem_cons.mp hb with z | z
  · subst z; rw [h] at e; cases e
  · exact d b z e
theorem Dom.cons_upd (d : Dom B H) {p : Addr} {o : HO} : Dom (p :: B) (L2.upd H p o) := (Dom.upd d).cons upd_same
theorem same_new {p : Addr} {o : HO} (h : H p = none) : Same H (upd H p o) := fun b u e => by
  rw [upd_ne (ne_of_none e h)]
  exact e
theorem Rd.upd_same {p : Addr} {o : HO} : Rd (upd H p o) p o := .inl L2.upd_same
/-- a list, a tuple laid anew -/
theorem Rp.lst_new {p : Addr} {vs : List V} {ds : List PyData} (h : H p = none) (d : Dom B H) (r : Rps B H vs ds) : Rp B (upd H p (.lst vs)) (.ref p) (.list ds) := .lst L2.upd_same (d.out h) (r.same (same_new h))
theorem Rp.tup_new {p : Addr} {vs : List V} {ds : List PyData} (h : H p = none) (d : Dom B H) (r : Rps B H vs ds) : Rp B (upd H p (.tup vs)) (.ref p) (.tuple ds) := .tup Rd.upd_same (d.out h) (r.same (same_new h))
end

/-! ### readings by data -/
def tD (r : List (Option PyData)) (d : PyData) : TE := fun σ H Q => ∃ B, Dom B H ∧ Er B H r σ ∧ ∀ v H', Same H H' → Rp B H' v d → Q v H'
def tT (r : List (Option PyData)) (p : Bool) : TT := fun σ H Q => ∃ B, Dom B H ∧ Er B H r σ ∧ ∀ H', Same H H' → Q p H'
def tA (r : List (Option PyData)) (ds : List PyData) : TA := fun σ H Q => ∃ B, Dom B H ∧ Er B H r σ ∧ ∀ vs H', Same H H' → Rps B H' vs ds → Q vs H'
theorem _root_.L2.PE.wkS {X : Cx} {e : Expr} {t t' : TE} (h : PE X e t) (i : ∀ σ H Q, t' σ H Q → t σ H Q) : PE X e t' := ⟨fun pins s σ H Q I q => h.run pins s σ H Q I (i σ H Q q)⟩
theorem _root_.L2.PT.wkS {X : Cx} {e : Expr} {t t' : TT} (h : PT X e t) (i : ∀ σ H Q, t' σ H Q → t σ H Q) : PT X e t' := ⟨fun pins s σ H Q I q => h.run pins s σ H Q I (i σ H Q q)⟩
theorem _root_.L2.PW.wkS {X : Cx} {e : Expr} {t t' : TT} (h : PW X e t) (i : ∀ σ H Q, t' σ H Q → t σ H Q) : PW X e t' := ⟨fun w pins s σ H Q I q => h.run w pins s σ H Q I (i σ H Q q)⟩
theorem _root_.L2.PA.wkS {X : Cx} {e : List Expr} {t t' : TA} (h : PA X e t) (i : ∀ σ H Q, t' σ H Q → t σ H Q) : PA X e t' := ⟨fun p pins s σ H Q I q => h.run p pins s σ H Q I (i σ H Q q)⟩
theorem _root_.L2.PI.wkS {X : Cx} {tg e : Expr} {t t' : TI} (h : PI X tg e t) (i : ∀ σ H Q, t' σ H Q → t σ H Q) : PI X tg e t' := ⟨fun pins s σ H Q I q => h.run pins s σ H Q I (i σ H Q q)⟩
theorem _root_.L2.PS.wkS {X : Cx} {e : Stmt} {t t' : TS} (h : PS X e t) (i : ∀ D σ H, t' D σ H → t D σ H) : PS X e t' := ⟨fun pins s σ H D I q => h.run pins s σ H D I (i D σ H q)⟩
theorem _root_.L2.PSs.wkS {X : Cx} {e : List Stmt} {t t' : TS} (h : PSs X e t) (i : ∀ D σ H, t' D σ H → t D σ H) : PSs X e t' := ⟨fun pins s σ H D I q => h.run pins s σ H D I (i D σ H q)⟩
theorem PE.ex {X : Cx} {e : Expr} {α : Type} {C : α → Prop} {t : α → TE} (h : ∀ a, C a → PE X e (t a)) : PE X e (fun σ H Q => ∃ a, C a ∧ t a σ H Q) := ⟨fun pins s σ H Q I ⟨a, c, q⟩ => (h a c).run pins s σ H Q I q⟩
theorem PT.ex {X : Cx} {e : Expr} {α : Type} {C : α → Prop} {t : α → TT} (h : ∀ a, C a → PT X e (t a)) : PT X e (fun σ H Q => ∃ a, C a ∧ t a σ H Q) := ⟨fun pins s σ H Q I ⟨a, c, q⟩ => (h a c).run pins s σ H Q I q⟩
theorem PSs.ex {X : Cx} {e : List Stmt} {α : Type} {C : α → Prop} {t : α → TS} (h : ∀ a, C a → PSs X e (t a)) : PSs X e (fun D σ H => ∃ a, C a ∧ t a D σ H) := ⟨fun pins s σ H D I ⟨a, c, q⟩ => (h a c).run pins s σ H D I q⟩

abbrev Rho := List (Option PyData)
section
variable {X : Cx} {r : Rho} {d d1 d2 d3 : PyData} {a b c e : Expr} {es : List Expr} {ds : List PyData} {pos : Pos} {p q : Bool}
/-- the parts are told; what comes behind -/
theorem tD.at {t : TE} (h : ∀ {B σ H Q}, Dom B H → Er B H r σ → (∀ v H', Same H H' → Rp B H' v d → Q v H') → t σ H Q) (σ : L2.St) (H : Hp) (Q : VK) (z : tD r d σ H Q) : t σ H Q := by
  obtain ⟨B, D, E, k⟩ := z
  exact h D E k
/-! names, constants -/
theorem de_var (i : Nat) {x : Str} (hi : r[i]? = some (some d)) (hN : X.N[i]? = some x := by rfl) (hv : Vis X.env.scope x := by first | exact Or.inl rfl | exact Or.inr (Or.inl rfl) | exact Or.inr (Or.inr rfl)) (hd : (x == ("__debug__" : Str)) = false := by decide)
    (hcd : (x == ("__classdict__" : Str)) = false := by decide) : PE X (.Name x pos) (tD r d) := (pe_var hN hv hd hcd).wkS fun σ H Q ⟨B, D, E, k⟩ => by
  obtain ⟨v, h1, h2⟩ := E.get hi
  exact ⟨v, h1, k v H (Same.refl H) h2⟩
theorem de_c {v : V} (h : PE X e (tC v)) (hv : ∀ B H, Rp B H v d) : PE X e (tD r d) := h.wkS fun σ H Q ⟨B, D, E, k⟩ => k v H (Same.refl H) (hv B H)
theorem de_int {i j} : PE X (.Constant (.int i) j pos) (tD r (.int i)) := de_c pe_int fun _ _ => .int i
theorem de_bl {i j} : PE X (.Constant (.bool i) j pos) (tD r (.bool i)) := de_c pe_bl fun _ _ => .bl i
theorem de_str {i j} : PE X (.Constant (.str i) j pos) (tD r (.str i)) := de_c pe_str fun _ _ => .str i
theorem de_non {j} : PE X (.Constant .none j pos) (tD r .none) := de_c pe_non fun _ _ => .non
theorem de_gint {x : Str} {i : Int} (hm : ∃ t, X.mg x = some (.int i t)) (hg : Gl X x := by rfl) (hd : (x == ("__debug__" : Str)) = false := by decide) : PE X (.Name x pos) (tD r (.int i)) := by
  obtain ⟨t, hm⟩ := hm
  exact de_c (pe_glob (v := .int i) hg hm ⟨t, rfl⟩ hd) fun _ _ => .int i
theorem de_gstr {x i : Str} (hm : ∃ t, X.mg x = some (.str i t)) (hg : Gl X x := by rfl) (hd : (x == ("__debug__" : Str)) = false := by decide) : PE X (.Name x pos) (tD r (.str i)) := by
  obtain ⟨t, hm⟩ := hm
  exact de_c (pe_glob (v := .str i) hg hm ⟨t, rfl⟩ hd) fun _ _ => .str i
/-! two parts -/
/-- by data: r2 of d1 and d2 gives d -/
def OpD (r2 : R2) (d1 d2 d : PyData) : Prop := ∀ (B : List Addr) (H : Hp) (x y : V) (Q : VK), Dom B H → Rp B H x d1 → Rp B H y d2 → (∀ v H', Same H H' → Rp B H' v d → Q v H') → r2 x y H Q
theorem tOp_D {r2 : R2} (h : OpD r2 d1 d2 d) (σ : L2.St) (H : Hp) (Q : VK) (z : tD r d σ H Q) : tOp r2 (tD r d1) (tD r d2) σ H Q := by
  obtain ⟨B, D, E, k⟩ := z
  exact ⟨B, D, E, fun x H1 s1 rx => ⟨B, D.same s1, E.same s1, fun y H2 s2 ry => h B H2 x y Q ((D.same s1).same s2) (rx.same s2) ry fun v H3 s3 rv => k v H3 (s1.trans (s2.trans s3)) rv⟩⟩
theorem tTest_D {r2 : R2} (h : OpD r2 d1 d2 (.bool p)) (σ : L2.St) (H : Hp) (Q : Bool → Hp → Prop) (z : tT r p σ H Q) : tTest (tOp r2 (tD r d1) (tD r d2)) σ H Q := by
  obtain ⟨B, D, E, k⟩ := z
  exact tOp_D h σ H _ ⟨B, D, E, fun v H1 s rv => by cases rv; exact ⟨p, rfl, k H1 s⟩⟩
theorem de_bin {op : Operator} {r2 : R2} (ho : OpR X (binaryOp op) r2) (h : OpD r2 d1 d2 d) (ha : PE X a (tD r d1)) (hb : PE X b (tD r d2)) : PE X (.BinOp a op b pos) (tD r d) := (pe_op ho ha hb).wkS (tOp_D h)
theorem de_cmp {op : CmpOp} {r2 : R2} (ho : OpR X (compareOp op) r2) (h : OpD r2 d1 d2 d) (ha : PE X a (tD r d1)) (hb : PE X b (tD r d2)) (hm : behindInMarks op b = false) : PE X (.Compare a [op] [b] pos) (tD r d) := (pe_cmpR ho ha hb hm).wkS (tOp_D h)
theorem dt_cmp {op : CmpOp} {r2 : R2} (ho : OpR X (compareOp op) r2) (h : OpD r2 d1 d2 (.bool p)) (ha : PE X a (tD r d1)) (hb : PE X b (tD r d2)) (hm : behindInMarks op b = false) : PT X (.Compare a [op] [b] pos) (tT r p) := (pt_cmpR ho ha hb hm).wkS (tTest_D h)
/-- a value that is a bool, as a test -/
theorem dt_val (h : PE X e (tD r (.bool p))) (he : ∀ whole, isTrue e X.env whole = (do let v ← whole; standAt e.pos; holding [v] (truthy v)) := by intro _; rfl) : PT X e (tT r p) := (pt_val h he).wkS fun σ H Q ⟨B, D, E, k⟩ =>
  ⟨B, D, E, fun v H1 s rv => by cases rv; exact ⟨p, rfl, k H1 s⟩⟩
/-! and, or, not; if else -/
theorem dw_and1 (h : PT X a (tT r p)) : PW X (.BoolOp .And [a] pos) (tT r p) := pw_and1 h
theorem dw_or1 (h : PT X a (tT r p)) : PW X (.BoolOp .Or [a] pos) (tT r p) := pw_or1 h
theorem dw_and {rest : List Expr} (ha : PT X a (tT r p)) (hb : p = true → PW X (.BoolOp .And (b :: rest) pos) (tT r q)) : PW X (.BoolOp .And (a :: b :: rest) pos) (tT r (p && q)) := by
  cases p with
  | true => exact (pw_and ha (hb rfl)).wkS fun σ H Q ⟨B, D, E, k⟩ => ⟨B, D, E, fun H1 s => iteT ⟨B, D.same s, E.same s, fun H2 s2 => k H2 (s.trans s2)⟩⟩
  | false =>
    refine ⟨fun wh pins s σ H Q I h => ?_⟩
    obtain ⟨B, D, E, k⟩ := h
    refine isTrue_and (thn (ha.run pins s σ H (fun c H1 => c = false ∧ Q false H1) I ⟨B, D, E, fun H1 s => ⟨rfl, k H1 s⟩⟩) fun c s1 ⟨H1, I1, e1, q1⟩ => ?_)
    subst e1
    exact ⟨H1, I1, q1⟩
theorem dw_or {rest : List Expr} (ha : PT X a (tT r p)) (hb : p = false → PW X (.BoolOp .Or (b :: rest) pos) (tT r q)) : PW X (.BoolOp .Or (a :: b :: rest) pos) (tT r (p || q)) := by
  cases p with
  | false => exact (pw_or ha (hb rfl)).wkS fun σ H Q ⟨B, D, E, k⟩ => ⟨B, D, E, fun H1 s => iteF ⟨B, D.same s, E.same s, fun H2 s2 => k H2 (s.trans s2)⟩⟩
  | true =>
    refine ⟨fun wh pins s σ H Q I h => ?_⟩
    obtain ⟨B, D, E, k⟩ := h
    refine isTrue_or (thn (ha.run pins s σ H (fun c H1 => c = true ∧ Q true H1) I ⟨B, D, E, fun H1 s => ⟨rfl, k H1 s⟩⟩) fun c s1 ⟨H1, I1, e1, q1⟩ => ?_)
    subst e1
    exact ⟨H1, I1, q1⟩
theorem dt_not (h : PT X a (tT r p)) : PT X (.UnaryOp .Not a pos) (tT r (!p)) := (pt_not h).wkS fun σ H Q ⟨B, D, E, k⟩ => ⟨B, D, E, fun H1 s => k H1 s⟩
theorem de_one {op} (h : PE X a (tD r d)) : PE X (.BoolOp op [a] pos) (tD r d) := pe_one h
/-- as values: all but the last bools -/
theorem de_and {rest : List Expr} (ha : PE X a (tD r (.bool p))) (hb : p = true → PE X (.BoolOp .And (b :: rest) pos) (tD r d)) : PE X (.BoolOp .And (a :: b :: rest) pos) (tD r (if p then d else .bool false)) := by
  cases p with
  | true => exact (pe_and ha (hb rfl)).wkS fun σ H Q ⟨B, D, E, k⟩ => ⟨B, D, E, fun v H1 s rv => by cases rv; exact ⟨true, rfl, iteT ⟨B, D.same s, E.same s, fun v H2 s2 rv => k v H2 (s.trans s2) rv⟩⟩⟩
  | false =>
    refine ⟨fun pins s σ H Q I h => ?_⟩
    obtain ⟨B, D, E, k⟩ := h
    refine BoolOp_and (thn (ha.run pins s σ H (fun x H1 => x = .bl false ∧ Q (.bl false) H1) I ⟨B, D, E, fun v H1 s rv => by cases rv; exact ⟨rfl, k _ H1 s (.bl false)⟩⟩) fun v s1 ⟨x, H1, I1, r1, e1, q1⟩ => ?_)
    subst e1
    cases r1
    exact wpAny_truthy_bool ⟨.bl false, H1, I1, rfl, q1⟩
theorem de_or {rest : List Expr} (ha : PE X a (tD r (.bool p))) (hb : p = false → PE X (.BoolOp .Or (b :: rest) pos) (tD r d)) : PE X (.BoolOp .Or (a :: b :: rest) pos) (tD r (if p then .bool true else d)) := by
  cases p with
  | false => exact (pe_or ha (hb rfl)).wkS fun σ H Q ⟨B, D, E, k⟩ => ⟨B, D, E, fun v H1 s rv => by cases rv; exact ⟨false, rfl, iteF ⟨B, D.same s, E.same s, fun v H2 s2 rv => k v H2 (s.trans s2) rv⟩⟩⟩
  | true =>
    refine ⟨fun pins s σ H Q I h => ?_⟩
    obtain ⟨B, D, E, k⟩ := h
    refine BoolOp_or (thn (ha.run pins s σ H (fun x H1 => x = .bl true ∧ Q (.bl true) H1) I ⟨B, D, E, fun v H1 s rv => by cases rv; exact ⟨rfl, k _ H1 s (.bl true)⟩⟩) fun v s1 ⟨x, H1, I1, r1, e1, q1⟩ => ?_)
    subst e1
    cases r1
    exact wpAny_truthy_bool ⟨.bl true, H1, I1, rfl, q1⟩
theorem de_not (h : PE X a (tD r (.bool p))) : PE X (.UnaryOp .Not a pos) (tD r (.bool (!p))) := (pe_not h).wkS fun σ H Q ⟨B, D, E, k⟩ => ⟨B, D, E, fun v H1 s rv => by cases rv; exact ⟨p, rfl, k _ H1 s (.bl _)⟩⟩
theorem de_if (hc : PT X c (tT r p)) (ha : p = true → PE X a (tD r d1)) (hb : p = false → PE X b (tD r d2)) : PE X (.IfExp c a b pos) (tD r (if p then d1 else d2)) := by
  refine ⟨fun pins s σ H Q I h => ?_⟩
  obtain ⟨B, D, E, k⟩ := h
  refine wpAny_IfExp (thn (hc.run pins s σ H (fun c H1 => c = p ∧ Same H H1) I ⟨B, D, E, fun H1 s => ⟨rfl, s⟩⟩) fun c s1 ⟨H1, I1, e1, s1'⟩ => ?_)
  subst e1
  cases c with
  | true => exact (ha rfl).run pins s1 σ H1 Q I1 ⟨B, D.same s1', E.same s1', fun v H2 s2 rv => k v H2 (s1'.trans s2) rv⟩
  | false => exact (hb rfl).run pins s1 σ H1 Q I1 ⟨B, D.same s1', E.same s1', fun v H2 s2 rv => k v H2 (s1'.trans s2) rv⟩
/-! arguments, displays -/
theorem da_nil : PA X [] (tA r []) := pa_nil.wkS fun σ H Q ⟨B, D, E, k⟩ => k [] H (Same.refl H) .nil
theorem da_cons (ha : PE X e (tD r d)) (hr : PA X es (tA r ds)) (hs : starEach (e :: es) X.env = (false, eval e X.env) :: starEach es X.env := by rfl) : PA X (e :: es) (tA r (d :: ds)) := (pa_cons ha hr hs).wkS fun σ H Q ⟨B, D, E, k⟩ =>
  ⟨B, D, E, fun v H1 s1 rv => ⟨B, D.same s1, E.same s1, fun vs H2 s2 rs => k (v :: vs) H2 (s1.trans s2) (.cons (rv.same s2) rs)⟩⟩
theorem de_tup {k} (h : PA X es (tA r ds)) (hz : ds.length ≤ sizeLine) : PE X (.Tuple es k pos) (tD r (.tuple ds)) := (pe_tup h).wkS fun σ H Q ⟨B, D, E, k⟩ =>
  ⟨B, D, E, fun vs H1 s1 rs => ⟨by rw [rs.length]; exact hz, fun p hp => k _ _ (s1.trans (same_new hp)) (Rp.tup_new hp (D.same s1) rs)⟩⟩
theorem de_lst (h : PA X es (tA r ds)) (hz : ds.length ≤ sizeLine) : PE X (.List es pos) (tD r (.list ds)) := (pe_lst h).wkS fun σ H Q ⟨B, D, E, k⟩ =>
  ⟨B, D, E, fun vs H1 s1 rs => ⟨by rw [rs.length]; exact hz, fun p hp => k _ _ (s1.trans (same_new hp)) (Rp.lst_new hp (D.same s1) rs)⟩⟩
end
end Sv
/-! part D3 -/
set_option Elab.async false
set_option linter.all false
set_option maxRecDepth 100000
set_option maxHeartbeats 4000000
namespace Sv
open PySem PySem.Spec PyProof.Rows L2
section
variable {X : Cx} {r : Rho} {d d1 d2 d3 : PyData} {a b c e o : Expr} {es : List Expr} {ds : List PyData} {pos apos : Pos} {p q : Bool}
/-! ### built-ins -/
def CaD (r2 : List V → Hp → VK → Prop) (ds : List PyData) (d : PyData) : Prop := ∀ (B : List Addr) (H : Hp) (xs : List V) (Q : VK), Dom B H → Rps B H xs ds → (∀ v H', Same H H' → Rp B H' v d → Q v H') → r2 xs H Q
theorem tCB_D {r2 : List V → Hp → VK → Prop} (h : CaD r2 ds d) (σ : L2.St) (H : Hp) (Q : VK) (z : tD r d σ H Q) : tCB r2 (tA r ds) σ H Q := by
  obtain ⟨B, D, E, k⟩ := z
  exact ⟨B, D, E, fun vs H1 s1 rs => h B H1 vs Q (D.same s1) rs fun v H2 s2 rv => k v H2 (s1.trans s2) rv⟩
theorem de_callB {x : Str} {id : String} {pp : Pos} {r2 : List V → Hp → VK → Prop} (hc : CallR X (.builtin id) r2) (h : CaD r2 ds d) (hm : X.mg x = none) (hv : bootBuiltins x = some (.builtin id)) (ha : PA X (e :: es) (tA r ds)) (hg : Gl X x := by rfl) (hn : x ≠ "__name__" := by decide) (hdb : (x == ("__debug__" : Str)) = false := by decide)
    (he : starEach (e :: es) X.env = (false, eval e X.env) :: starEach es X.env := by rfl) (hpl : (backTo pos (starEach es X.env)).any (·.1) = false := by rfl) : PE X (.Call (.Name x pp) (e :: es) [] pos) (tD r d) :=
  (pe_callB hc hg hm hv ha hn hdb he hpl).wkS (tCB_D h)
theorem de_callT {x : Str} {T : String} {pp : Pos} {r2 : List V → Hp → VK → Prop} (hc : CallR X (.type T) r2) (h : CaD r2 ds d) (hm : X.mg x = none) (hv : bootBuiltins x = some (.type T)) (ha : PA X (e :: es) (tA r ds)) (hg : Gl X x := by rfl) (hn : x ≠ "__name__" := by decide) (hdb : (x == ("__debug__" : Str)) = false := by decide)
    (he : starEach (e :: es) X.env = (false, eval e X.env) :: starEach es X.env := by rfl) (hpl : (backTo pos (starEach es X.env)).any (·.1) = false := by rfl) : PE X (.Call (.Name x pp) (e :: es) [] pos) (tD r d) :=
  (pe_callTy hc hg hm hv ha hn hdb he hpl).wkS (tCB_D h)
theorem Rps.one_inv {B : List Addr} {H : Hp} {xs : List V} {d : PyData} (h : Rps B H xs [d]) : ∃ x, xs = [x] ∧ Rp B H x d := by
  cases h with
  | cons rv s => cases s; exact ⟨_, rfl, rv⟩
theorem Rps.two_inv {B : List Addr} {H : Hp} {xs : List V} {d d' : PyData} (h : Rps B H xs [d, d']) : ∃ x y, xs = [x, y] ∧ Rp B H x d ∧ Rp B H y d' := by
  cases h with
  | cons rv s =>
    obtain ⟨y, e, q⟩ := s.one_inv
    subst e
    exact ⟨_, _, rfl, rv, q⟩
theorem Rp.list_inv {B : List Addr} {H : Hp} {v : V} {ds : List PyData} (h : Rp B H v (.list ds)) : ∃ a xs, v = .ref a ∧ Rd H a (.lst xs) ∧ a ∉ B ∧ Rps B H xs ds := by
  cases h with
  | lst q n s => exact ⟨_, _, rfl, .inl q, n, s⟩
theorem Rp.list_inv1 {B : List Addr} {H : Hp} {v : V} {ds : List PyData} (h : Rp B H v (.list ds)) : ∃ a xs, v = .ref a ∧ H a = some (.lst xs) ∧ a ∉ B ∧ Rps B H xs ds := by
  cases h with
  | lst q n s => exact ⟨_, _, rfl, q, n, s⟩
theorem Rp.tup_inv {B : List Addr} {H : Hp} {v : V} {ds : List PyData} (h : Rp B H v (.tuple ds)) : ∃ a xs, v = .ref a ∧ Rd H a (.tup xs) ∧ a ∉ B ∧ Rps B H xs ds := by
  cases h with
  | tup q n s => exact ⟨_, _, rfl, q, n, s⟩
/-! len -/
theorem cd_lenL : CaD (fun xs H Q => ∃ p ys, xs = [.ref p] ∧ (SqL X.K H p ys ∨ SqT X.K H p ys) ∧ Q (.int ys.length) H) [.list ds] (.int ds.length) := by
  intro B H xs Q D rs k
  obtain ⟨x, e, rx⟩ := rs.one_inv
  subst e
  obtain ⟨a, ys, e, h, n, s⟩ := rx.list_inv
  subst e
  exact ⟨a, ys, rfl, .inl (.inl h), by rw [s.length]; exact k _ H (Same.refl H) (.int _)⟩
theorem cd_lenT : CaD (fun xs H Q => ∃ p ys, xs = [.ref p] ∧ (SqL X.K H p ys ∨ SqT X.K H p ys) ∧ Q (.int ys.length) H) [.tuple ds] (.int ds.length) := by
  intro B H xs Q D rs k
  obtain ⟨x, e, rx⟩ := rs.one_inv
  subst e
  obtain ⟨a, ys, e, h, n, s⟩ := rx.tup_inv
  subst e
  exact ⟨a, ys, rfl, .inr (.inl h), by rw [s.length]; exact k _ H (Same.refl H) (.int _)⟩
theorem de_lenL {pp : Pos} (hm : X.mg "len" = none) (h : PE X e (tD r (.list ds))) (hg : Gl X "len" := by rfl) (he : starEach [e] X.env = (false, eval e X.env) :: starEach [] X.env := by rfl) : PE X (.Call (.Name "len" pp) [e] [] pos) (tD r (.int ds.length)) :=
  de_callB call_len_seq cd_lenL hm boot_len (da_cons h da_nil he) hg (by decide) (by decide) he
theorem de_lenT {pp : Pos} (hm : X.mg "len" = none) (h : PE X e (tD r (.tuple ds))) (hg : Gl X "len" := by rfl) (he : starEach [e] X.env = (false, eval e X.env) :: starEach [] X.env := by rfl) : PE X (.Call (.Name "len" pp) [e] [] pos) (tD r (.int ds.length)) :=
  de_callB call_len_seq cd_lenT hm boot_len (da_cons h da_nil he) hg (by decide) (by decide) he
theorem de_lenS {pp : Pos} {z : Str} (hm : X.mg "len" = none) (hz : z.length ≤ sizeLine) (h : PE X e (tD r (.str z))) (hg : Gl X "len" := by rfl) (he : starEach [e] X.env = (false, eval e X.env) :: starEach [] X.env := by rfl) : PE X (.Call (.Name "len" pp) [e] [] pos) (tD r (.int z.length)) := by
  refine de_callB call_len_str ?_ hm boot_len (da_cons h da_nil he) hg (by decide) (by decide) he
  intro B H xs Q D rs k
  obtain ⟨x, e, rx⟩ := rs.one_inv
  subst e
  cases rx
  exact ⟨z, rfl, hz, k _ H (Same.refl H) (.int _)⟩
/-! isinstance -/
def tyN : PyData → String
  | .none => "NoneType" | .bool _ => "bool" | .int _ => "int" | .str _ => "str" | .list _ => "list" | .tuple _ => "tuple" | .dict _ => "dict"
theorem Rp.ty {K : PySem.W.Frag} {B : List Addr} {H : Hp} {v : V} (h : Rp B H v d) : TyX K H v (.type (tyN d)) := by
  cases h with
  | non => exact .base .non
  | bl b => exact .base (.bl b)
  | int i => exact .base (.int i)
  | str x => exact .base (.str x)
  | lst q n s => exact .base (.lst q)
  | tup q n s =>
    rcases q with q | ⟨o, q⟩
    · exact .base (.tup q)
    · exact .fTuple q
theorem de_isi {pp pt : Pos} {T : Str} {t : String} {k : Bool} (hm : X.mg "isinstance" = none) (hT : X.mg T = none) (hv : bootBuiltins T = some (.type t)) (hb : kitB (tyN d) t = some k) (h : PE X e (tD r d)) (hg : Gl X "isinstance" := by rfl) (hgT : Gl X T := by rfl) (hn : T ≠ "__name__" := by decide) (hd : (T == ("__debug__" : Str)) = false := by decide)
    (he : starEach [e, .Name T pt] X.env = (false, eval e X.env) :: starEach [.Name T pt] X.env := by rfl) (he2 : starEach [.Name T pt] X.env = (false, eval (.Name T pt) X.env) :: starEach [] X.env := by rfl) (hpl : (backTo pos (starEach [.Name T pt] X.env)).any (·.1) = false := by rfl) :
    PE X (.Call (.Name "isinstance" pp) [e, .Name T pt] [] pos) (tD r (.bool k)) :=
  (pe_callB call_isi hg hm (by decide +kernel) (pa_cons h (pa_cons (pe_bltn (v := .ty t) hgT hT hv rfl hn hd) pa_nil he2) he) (by decide) (by decide) he hpl).wkS fun σ H Q ⟨B, D, E, kk⟩ =>
    ⟨B, D, E, fun v H1 s rv => ⟨v, .ty t, .type (tyN d), .type t, k, rfl, .ty t, rv.ty, kit_ty hb, kk (.bl k) H1 s (.bl k)⟩⟩
/-- isinstance(x, (T1, T2)) -/
theorem de_isi2 {pp pt pt2 tp : Pos} {kk : Nat} {T T2 : Str} {t t2 : String} {k1 k2 : Bool} (hm : X.mg "isinstance" = none) (hT : X.mg T = none) (hT2 : X.mg T2 = none) (hv : bootBuiltins T = some (.type t)) (hv2 : bootBuiltins T2 = some (.type t2)) (hb : kitB (tyN d) t = some k1) (hb2 : kitB (tyN d) t2 = some k2)
    (h : PE X e (tD r d)) (hg : Gl X "isinstance" := by rfl) (hgT : Gl X T := by rfl) (hgT2 : Gl X T2 := by rfl) (hn : T ≠ "__name__" := by decide) (hd : (T == ("__debug__" : Str)) = false := by decide) (hn2 : T2 ≠ "__name__" := by decide) (hd2 : (T2 == ("__debug__" : Str)) = false := by decide)
    (he : starEach [e, .Tuple [.Name T pt, .Name T2 pt2] kk tp] X.env = (false, eval e X.env) :: starEach [.Tuple [.Name T pt, .Name T2 pt2] kk tp] X.env := by rfl)
    (hf : starEach [.Tuple [.Name T pt, .Name T2 pt2] kk tp] X.env = (false, eval (.Tuple [.Name T pt, .Name T2 pt2] kk tp) X.env) :: starEach [] X.env := by rfl)
    (he1 : starEach [.Name T pt, .Name T2 pt2] X.env = (false, eval (.Name T pt) X.env) :: starEach [.Name T2 pt2] X.env := by rfl) (he2 : starEach [.Name T2 pt2] X.env = (false, eval (.Name T2 pt2) X.env) :: starEach [] X.env := by rfl)
    (hpl : (backTo pos (starEach [.Tuple [.Name T pt, .Name T2 pt2] kk tp] X.env)).any (·.1) = false := by rfl) :
    PE X (.Call (.Name "isinstance" pp) [e, .Tuple [.Name T pt, .Name T2 pt2] kk tp] [] pos) (tD r (.bool (k1 || k2))) :=
  (pe_callB call_isiT hg hm (by decide +kernel) (pa_cons h (pa_cons (pe_tup (pa_cons (pe_bltn (v := .ty t) hgT hT hv rfl hn hd) (pa_cons (pe_bltn (v := .ty t2) hgT2 hT2 hv2 rfl hn2 hd2) pa_nil he2) he1)) pa_nil hf) he) (by decide) (by decide) he hpl).wkS fun σ H Q ⟨B, D, E, kq⟩ =>
    ⟨B, D, E, fun v H1 s rv => ⟨by show 2 ≤ sizeLine; decide, fun tq hq => ⟨v, tq, _, .type (tyN d), [.type t, .type t2], k1 || k2, rfl, upd_same, .cons (.ty t) (.cons (.ty t2) .nil), (rv.same (same_new hq)).ty,
      kitAny_cons (kit_ty hb) (fun z => by subst z; exact kitAny_cons (kit_ty hb2) (fun z2 => by subst z2; rfl) (fun z2 => by subst z2; rfl)) (fun z => by subst z; rfl), kq _ _ (s.trans (same_new hq)) (.bl _)⟩⟩⟩
/-! all of a list of bools -/
theorem de_all {pp : Pos} {bs : List Bool} (hc : X.calm = true) (hm : X.mg "all" = none) (hb : ds = bs.map .bool) (h : PE X e (tD r (.list ds))) (hg : Gl X "all" := by rfl) (he : starEach [e] X.env = (false, eval e X.env) :: starEach [] X.env := by rfl) : PE X (.Call (.Name "all" pp) [e] [] pos) (tD r (.bool (bs.all id))) := by
  subst hb
  refine de_callB (cr_all hc) ?_ hm (by decide +kernel) (da_cons h da_nil he) hg (by decide) (by decide) he
  intro B H xs Q D rs k
  obtain ⟨x, e, rx⟩ := rs.one_inv
  subst e
  obtain ⟨a, ys, e, h, n, s⟩ := rx.list_inv
  subst e
  have := s.bls
  subst this
  exact ⟨a, bs, rfl, .inl h, k _ H (Same.refl H) (.bl _)⟩
/-! tuple(list), tuple(tuple), list(list), list(tuple) -/
theorem de_tupL {pp : Pos} (hm : X.mg "tuple" = none) (h : PE X e (tD r (.list ds))) (hg : Gl X "tuple" := by rfl) (he : starEach [e] X.env = (false, eval e X.env) :: starEach [] X.env := by rfl) : PE X (.Call (.Name "tuple" pp) [e] [] pos) (tD r (.tuple ds)) := by
  refine de_callT call_tuple_of ?_ hm (by decide +kernel) (da_cons h da_nil he) hg (by decide) (by decide) he
  intro B H xs Q D rs k
  obtain ⟨x, e, rx⟩ := rs.one_inv
  subst e
  obtain ⟨a, ys, e, h, n, s⟩ := rx.list_inv
  subst e
  exact ⟨a, ys, rfl, .inl ⟨.inl h, fun l hl => k _ _ (same_new hl) (Rp.tup_new hl D s)⟩⟩
theorem de_lstT {pp : Pos} (hm : X.mg "list" = none) (h : PE X e (tD r (.tuple ds))) (hg : Gl X "list" := by rfl) (he : starEach [e] X.env = (false, eval e X.env) :: starEach [] X.env := by rfl) : PE X (.Call (.Name "list" pp) [e] [] pos) (tD r (.list ds)) := by
  refine de_callT call_list_of ?_ hm (by decide +kernel) (da_cons h da_nil he) hg (by decide) (by decide) he
  intro B H xs Q D rs k
  obtain ⟨x, e, rx⟩ := rs.one_inv
  subst e
  obtain ⟨a, ys, e, h, n, s⟩ := rx.tup_inv
  subst e
  exact ⟨a, ys, rfl, .inr (.inl h), fun l hl => k _ _ (same_new hl) (Rp.lst_new hl D s)⟩
/-! int(text), int(bool), str(int) -/
theorem de_intS {pp : Pos} {z : Str} {n : Int} (hm : X.mg "int" = none) (hz : PySem.intText? z = some n) (hl : z.length ≤ 640) (h : PE X e (tD r (.str z))) (hg : Gl X "int" := by rfl) (he : starEach [e] X.env = (false, eval e X.env) :: starEach [] X.env := by rfl) : PE X (.Call (.Name "int" pp) [e] [] pos) (tD r (.int n)) := by
  refine de_callT call_int_str ?_ hm (by decide +kernel) (da_cons h da_nil he) hg (by decide) (by decide) he
  intro B H xs Q D rs k
  obtain ⟨x, e, rx⟩ := rs.one_inv
  subst e
  cases rx
  exact ⟨z, n, rfl, hz, hl, k _ H (Same.refl H) (.int _)⟩
theorem de_intB {pp : Pos} (hm : X.mg "int" = none) (h : PE X e (tD r (.bool p))) (hg : Gl X "int" := by rfl) (he : starEach [e] X.env = (false, eval e X.env) :: starEach [] X.env := by rfl) : PE X (.Call (.Name "int" pp) [e] [] pos) (tD r (.int (if p then 1 else 0))) := by
  refine de_callT call_int1 ?_ hm (by decide +kernel) (da_cons h da_nil he) hg (by decide) (by decide) he
  intro B H xs Q D rs k
  obtain ⟨x, e, rx⟩ := rs.one_inv
  subst e
  cases rx
  exact .inr ⟨p, rfl, k _ H (Same.refl H) (.int _)⟩
theorem de_strI {pp : Pos} {i : Int} (hm : X.mg "str" = none) (hz : i.natAbs.log2 < 1920) (h : PE X e (tD r (.int i))) (hg : Gl X "str" := by rfl) (he : starEach [e] X.env = (false, eval e X.env) :: starEach [] X.env := by rfl) : PE X (.Call (.Name "str" pp) [e] [] pos) (tD r (.str (toString i))) := by
  refine de_callT call_str_int ?_ hm (by decide +kernel) (da_cons h da_nil he) hg (by decide) (by decide) he
  intro B H xs Q D rs k
  obtain ⟨x, e, rx⟩ := rs.one_inv
  subst e
  cases rx
  exact ⟨i, rfl, hz, k _ H (Same.refl H) (.str _)⟩
/-! ### methods of texts -/
theorem de_split {z y : Str} (hy : (y.length == 0) = false) (hz : z.length + 2 ≤ sizeLine) (ho : PE X o (tD r (.str z))) (he : PE X e (tD r (.str y))) (hs : starEach [e] X.env = [(false, eval e X.env)] := by rfl) (hbase : attributeBase o "split" X.env (eval o X.env) = eval o X.env := by rfl) (hline : (apos.endLine == pos.line) = true := by rfl) :
    PE X (.Call (.Attribute o "split" apos) [e] [] pos) (tD r (.list ((Txt.split z y).map .str))) := (pe_split ho he hs hbase hline).wkS fun σ H Q ⟨B, D, E, k⟩ =>
  ⟨B, D, E, fun v H1 s1 rv => by
    cases rv
    exact ⟨⟨_, rfl⟩, B, D.same s1, E.same s1, fun w H2 s2 rw_ => by
      cases rw_
      exact ⟨z, y, rfl, rfl, hy, hz, fun p hp => k _ _ (s1.trans (s2.trans (same_new hp))) (Rp.lst_new hp ((D.same s1).same s2) (Rps.str _))⟩⟩⟩
theorem de_join {z : Str} {ys : List Str} (hd : d = .list (ys.map .str) ∨ d = .tuple (ys.map .str)) (hz : (ys.map (·.length)).sum + ys.length * z.length ≤ 16777216) (ho : PE X o (tD r (.str z))) (he : PE X e (tD r d)) (hs : starEach [e] X.env = [(false, eval e X.env)] := by rfl) (hbase : attributeBase o "join" X.env (eval o X.env) = eval o X.env := by rfl) (hline : (apos.endLine == pos.line) = true := by rfl) :
    PE X (.Call (.Attribute o "join" apos) [e] [] pos) (tD r (.str (Txt.join z ys))) := (pe_join ho he hs hbase hline).wkS fun σ H Q ⟨B, D, E, k⟩ =>
  ⟨B, D, E, fun v H1 s1 rv => by
    cases rv
    exact ⟨⟨_, rfl⟩, B, D.same s1, E.same s1, fun w H2 s2 rw_ => by
      rcases hd with hd | hd
      · subst hd
        obtain ⟨a, xs, e, h, n, s⟩ := rw_.list_inv
        subst e
        have := s.strs
        subst this
        exact ⟨z, a, ys, rfl, rfl, .inl (.inl h), hz, k _ _ (s1.trans s2) (.str _)⟩
      · subst hd
        obtain ⟨a, xs, e, h, n, s⟩ := rw_.tup_inv
        subst e
        have := s.strs
        subst this
        exact ⟨z, a, ys, rfl, rfl, .inr (.inl h), hz, k _ _ (s1.trans s2) (.str _)⟩⟩⟩
/-! ### items, slices -/
theorem Rps.atI {B : List Addr} {H : Hp} {xs : List V} {i : Int} (s : Rps B H xs ds) (h : L2.atI ds i = some d) : ∃ v, L2.atI xs i = some v ∧ Rp B H v d := by
  unfold L2.atI at *
  rw [s.length]
  cases e : ixN ds.length i with
  | none => rw [e] at h; cases h
  | some j =>
    rw [e] at h
    exact s.get h
theorem od_ixL {i : Int} (h : L2.atI ds i = some d) : OpD (rIxL X.K) (.list ds) (.int i) d := by
  intro B H x y Q D rx ry k
  obtain ⟨a, xs, e, h1, n, s⟩ := rx.list_inv
  subst e
  cases ry
  obtain ⟨v, h2, h3⟩ := s.atI h
  exact ⟨a, xs, i, v, rfl, rfl, .inl h1, h2, k v H (Same.refl H) h3⟩
theorem od_ixT {i : Int} (h : L2.atI ds i = some d) : OpD (rIxT X.K) (.tuple ds) (.int i) d := by
  intro B H x y Q D rx ry k
  obtain ⟨a, xs, e, h1, n, s⟩ := rx.tup_inv
  subst e
  cases ry
  obtain ⟨v, h2, h3⟩ := s.atI h
  exact ⟨a, xs, i, v, rfl, rfl, .inl h1, h2, k v H (Same.refl H) h3⟩
theorem od_ixS {i : Int} {z : Str} {c : Nat} (hz : z.length ≤ sizeLine) (h : L2.atI z.cps.toList i = some c) : OpD rIxS (.str z) (.int i) (.str ⟨#[c]⟩) := by
  intro B H x y Q D rx ry k
  cases rx
  cases ry
  exact ⟨z, i, c, rfl, rfl, hz, h, k _ H (Same.refl H) (.str _)⟩
theorem de_ixL {i : Int} (h : L2.atI ds i = some d) (ha : PE X a (tD r (.list ds))) (hb : PE X b (tD r (.int i))) (hs : PlainIx b := by exact fun _ _ => rfl) : PE X (.Subscript a b pos) (tD r d) := (pe_ix ix_list ha hb hs).wkS (tOp_D (od_ixL h))
theorem de_ixT {i : Int} (h : L2.atI ds i = some d) (ha : PE X a (tD r (.tuple ds))) (hb : PE X b (tD r (.int i))) (hs : PlainIx b := by exact fun _ _ => rfl) : PE X (.Subscript a b pos) (tD r d) := (pe_ix ix_tup ha hb hs).wkS (tOp_D (od_ixT h))
theorem de_ixS {i : Int} {z : Str} {c : Nat} (hz : z.length ≤ sizeLine) (h : L2.atI z.cps.toList i = some c) (ha : PE X a (tD r (.str z))) (hb : PE X b (tD r (.int i))) (hs : PlainIx b := by exact fun _ _ => rfl) : PE X (.Subscript a b pos) (tD r (.str ⟨#[c]⟩)) := (pe_ix ix_str ha hb hs).wkS (tOp_D (od_ixS hz h))
def tP (r : Rho) (o : Option Int) : L2.St → Hp → (Option Int → Hp → Prop) → Prop := fun σ H Q => ∃ B, Dom B H ∧ Er B H r σ ∧ ∀ H', Same H H' → Q o H'
theorem _root_.L2.PO.wkS {o : Option Expr} {t t' : L2.St → Hp → (Option Int → Hp → Prop) → Prop} (h : PO X o t) (i : ∀ σ H Q, t' σ H Q → t σ H Q) : PO X o t' := ⟨fun pins s σ H Q I q => h.run pins s σ H Q I (i σ H Q q)⟩
theorem dp_none : PO X none (tP r none) := po_none.wkS fun σ H Q ⟨B, D, E, k⟩ => k H (Same.refl H)
theorem dp_some {i : Int} (h : PE X e (tD r (.int i))) : PO X (some e) (tP r (some i)) := (po_some h).wkS fun σ H Q ⟨B, D, E, k⟩ => ⟨B, D, E, fun v H1 s rv => by cases rv; exact ⟨i, rfl, k H1 s⟩⟩
def cutD (xs : List PyData) (lo hi : Option Int) : List PyData := (xs.drop (HT.sIx xs.length 0 lo)).take (HT.sIx xs.length xs.length hi - HT.sIx xs.length 0 lo)
theorem Rps.cut {B : List Addr} {H : Hp} {xs : List V} (s : Rps B H xs ds) (lo hi : Option Int) : Rps B H (cutV xs lo hi) (cutD ds lo hi) := by
  unfold cutV cutD
  rw [s.length]
  exact (s.drop _).take _
theorem de_slL {lo hi : Option Expr} {i j : Option Int} {p2 : Pos} (he : PE X e (tD r (.list ds))) (hl : PO X lo (tP r i)) (hu : PO X hi (tP r j)) : PE X (.Subscript e (.Slice lo hi none p2) pos) (tD r (.list (cutD ds i j))) := (pe_slice sl_list he hl hu).wkS fun σ H Q ⟨B, D, E, k⟩ =>
  ⟨B, D, E, fun v H1 s1 rv => ⟨B, D.same s1, E.same s1, fun H2 s2 => ⟨B, (D.same s1).same s2, (E.same s1).same s2, fun H3 s3 => by
    obtain ⟨a, xs, e, h1, n, s⟩ := ((rv.same s2).same s3).list_inv
    subst e
    exact ⟨a, xs, rfl, .inl h1, fun p hp => k _ _ (s1.trans (s2.trans (s3.trans (same_new hp)))) (Rp.lst_new hp (((D.same s1).same s2).same s3) (s.cut i j))⟩⟩⟩⟩
theorem cut_all {B : List Addr} {H : Hp} {xs : List V} (s : Rps B H xs ds) {lo hi : Option Int} (h : HT.sIx xs.length 0 lo = 0 ∧ HT.sIx xs.length xs.length hi = xs.length) : cutD ds lo hi = ds := by
  unfold cutD
  rw [← s.length, h.1, h.2, s.length]
  simp
theorem de_slT {lo hi : Option Expr} {i j : Option Int} {p2 : Pos} (he : PE X e (tD r (.tuple ds))) (hl : PO X lo (tP r i)) (hu : PO X hi (tP r j)) : PE X (.Subscript e (.Slice lo hi none p2) pos) (tD r (.tuple (cutD ds i j))) := (pe_slice sl_tupA he hl hu).wkS fun σ H Q ⟨B, D, E, k⟩ =>
  ⟨B, D, E, fun v H1 s1 rv => ⟨B, D.same s1, E.same s1, fun H2 s2 => ⟨B, (D.same s1).same s2, (E.same s1).same s2, fun H3 s3 => by
    have rv3 := (rv.same s2).same s3
    obtain ⟨a, xs, e, h1, n, s⟩ := rv3.tup_inv
    subst e
    refine ⟨a, xs, rfl, .inl h1, fun h => k _ _ (s1.trans (s2.trans s3)) ?_, fun h p hp => k _ _ (s1.trans (s2.trans (s3.trans (same_new hp)))) (Rp.tup_new hp (((D.same s1).same s2).same s3) (s.cut i j))⟩
    rw [cut_all s h]
    exact .tup h1 n s⟩⟩⟩
theorem de_slS {lo hi : Option Expr} {i j : Option Int} {p2 : Pos} {z : Str} (hz : z.length ≤ sizeLine) (he : PE X e (tD r (.str z))) (hl : PO X lo (tP r i)) (hu : PO X hi (tP r j)) : PE X (.Subscript e (.Slice lo hi none p2) pos) (tD r (.str (cutS z i j))) := (pe_slice sl_str he hl hu).wkS fun σ H Q ⟨B, D, E, k⟩ =>
  ⟨B, D, E, fun v H1 s1 rv => ⟨B, D.same s1, E.same s1, fun H2 s2 => ⟨B, (D.same s1).same s2, (E.same s1).same s2, fun H3 s3 => by
    cases rv
    exact ⟨z, rfl, hz, k _ _ (s1.trans (s2.trans s3)) (.str _)⟩⟩⟩⟩
end
end Sv
/-! part D4 -/
set_option Elab.async false
set_option linter.all false
set_option maxRecDepth 100000
set_option maxHeartbeats 4000000
namespace Sv
open PySem PySem.Spec PyProof.Rows L2
/-! ### what is walked -/
/-- an iterator that gives ds, whatever is made beside it -/
structure Gives (B : List Addr) (H1 : Hp) (J : It) (ds : List PyData) : Prop where
  ex : ∃ (G : Hp → Prop) (Y : Nat → Hp → V → Hp → Prop), Walk J ds.length G Y ∧ (∀ H2, Keep B H1 H2 → G H2) ∧
    ∀ (i : Nat) (d : PyData) (H2 : Hp) (x : V) (H3 : Hp) (B2 : List Addr), ds[i]? = some d → Keep B H1 H2 → Y i H2 x H3 → Dom B2 H2 → (∀ b ∈ B, b ∈ B2) → (∀ b ∈ B2, b ∈ B ∨ H1 b = none) → Same H2 H3 ∧ Rp B2 H3 x d
def tI (r : Rho) (ds : List PyData) : TI := fun σ H R => ∃ B, Dom B H ∧ Er B H r σ ∧ ∀ J H1, Same H H1 → Gives B H1 J ds → R J H1
theorem item_of {B B2 : List Addr} {H1 H2 : Hp} {x : V} {d : PyData} (r : Rp B H1 x d) (k : Keep B H1 H2) (h1 : ∀ b ∈ B, b ∈ B2) (h2 : ∀ b ∈ B2, b ∈ B ∨ H1 b = none) : Rp B2 H2 x d := (r.forb h2).keep (k.sub h1)
theorem gives_list {K : PySem.W.Frag} {B : List Addr} {H1 : Hp} {a : Addr} {xs : List V} {ds : List PyData} (h : Rd H1 a (.lst xs)) (n : a ∉ B) (s : Rps B H1 xs ds) : Gives B H1 (Itl K a) ds :=
  ⟨fun H => SqL K H a xs, YAt xs, by rw [← s.length]; exact walk_list, fun H2 k => .inl (k.rd n h), fun i d H2 x H3 B2 hd k y D h1 h2 => by
    obtain ⟨e, hx⟩ := y
    subst e
    obtain ⟨v, hv, rv⟩ := s.get hd
    rw [hx] at hv
    cases hv
    exact ⟨Same.refl _, item_of rv k h1 h2⟩⟩
theorem gives_tup {K : PySem.W.Frag} {B : List Addr} {H1 : Hp} {a : Addr} {xs : List V} {ds : List PyData} (h : Rd H1 a (.tup xs)) (n : a ∉ B) (s : Rps B H1 xs ds) : Gives B H1 (Itt K a) ds :=
  ⟨fun H => SqT K H a xs, YAt xs, by rw [← s.length]; exact walk_tup, fun H2 k => .inl (k.rd n h), fun i d H2 x H3 B2 hd k y D h1 h2 => by
    obtain ⟨e, hx⟩ := y
    subst e
    obtain ⟨v, hv, rv⟩ := s.get hd
    rw [hx] at hv
    cases hv
    exact ⟨Same.refl _, item_of rv k h1 h2⟩⟩
/-- the signs of a text -/
def signsD (z : Str) : List PyData := z.cps.toList.map fun c => .str ⟨#[c]⟩
theorem gives_str {B : List Addr} {H1 : Hp} {z : Str} : Gives B H1 (Its z) (signsD z) :=
  ⟨fun _ => True, _, by have e : (signsD z).length = z.cps.size := by simp [signsD]
                        rw [e]; exact walk_str, fun _ _ => trivial, fun i d H2 x H3 B2 hd k y D h1 h2 => by
    obtain ⟨e, c, hc, hx⟩ := y
    subst e
    subst hx
    unfold signsD at hd
    rw [List.getElem?_map] at hd
    have hc2 : z.cps.toList[i]? = some c := by simpa using hc
    rw [hc2] at hd
    cases hd
    exact ⟨Same.refl _, .str _⟩⟩
/-- pairs of the i-th number, or the i-th of one list, and the i-th of another -/
theorem gives_pair {B : List Addr} {H1 : Hp} {J : It} {ds : List PyData} {n : Nat} {G : Hp → Prop} {f g : Nat → Option V} (w : Walk J n G (YPair f g)) (hG : ∀ H2, Keep B H1 H2 → G H2) (h1 : ds.length = n)
    (hf : ∀ i d, ds[i]? = some d → ∃ u v d1 d2, d = .tuple [d1, d2] ∧ f i = some u ∧ g i = some v ∧ Rp B H1 u d1 ∧ Rp B H1 v d2) : Gives B H1 J ds :=
  ⟨G, _, by rw [h1]; exact w, hG, fun i d H2 x H3 B2 hd k y D h1 h2 => by
    obtain ⟨T, u, v, e, hT, eH, hu, hv⟩ := y
    subst e
    subst eH
    obtain ⟨u', v', d1, d2, ed, hu', hv', r1, r2⟩ := hf i d hd
    subst ed
    rw [hu] at hu'
    rw [hv] at hv'
    cases hu'
    cases hv'
    exact ⟨same_new hT, Rp.tup_new hT D (.cons (item_of r1 k h1 h2) (.cons (item_of r2 k h1 h2) .nil))⟩⟩
def enumD : Nat → List PyData → List PyData
  | _, [] => []
  | n, d :: ds => .tuple [.int (n : Nat), d] :: enumD (n + 1) ds
theorem enumD_length : ∀ (n : Nat) (ds : List PyData), (enumD n ds).length = ds.length
  | _, [] => rfl
  | n, d :: ds => congrArg Nat.succ (enumD_length (n + 1) ds)
theorem enumD_get : ∀ (n : Nat) (ds : List PyData) (i : Nat), (enumD n ds)[i]? = (ds[i]?).map fun d => .tuple [.int ((n + i : Nat) : Int), d]
  | _, [], i => by simp [enumD]
  | n, d :: ds, 0 => by simp [enumD]
  | n, d :: ds, i + 1 => by
    show (enumD (n + 1) ds)[i]? = _
    rw [enumD_get (n + 1) ds i]
    simp only [List.getElem?_cons_succ]
    rw [show n + 1 + i = n + (i + 1) by omega]
theorem gives_enum {K : PySem.W.Frag} {B : List Addr} {H1 : Hp} {a : Addr} {xs : List V} {ds : List PyData} (h : Rd H1 a (.lst xs)) (n : a ∉ B) (s : Rps B H1 xs ds) : Gives B H1 (Ite K a) (enumD 0 ds) :=
  gives_pair (walk_enum (K := K) (a := a) (xs := xs)) (fun H2 k => .inl (k.rd n h)) ((enumD_length 0 ds).trans s.length.symm) fun i d hd => by
    rw [enumD_get] at hd
    cases e : ds[i]? with
    | none => rw [e] at hd; cases hd
    | some d' =>
      rw [e] at hd
      cases hd
      obtain ⟨v, hv, rv⟩ := s.get e
      exact ⟨.int (i : Nat), v, .int ((0 + i : Nat) : Int), d', rfl, rfl, hv, by rw [Nat.zero_add]; exact .int _, rv⟩
def zipD : List PyData → List PyData → List PyData
  | a :: as, b :: bs => .tuple [a, b] :: zipD as bs
  | _, _ => []
theorem zipD_length : ∀ (as bs : List PyData), (zipD as bs).length = min as.length bs.length
  | [], bs => by simp [zipD]
  | a :: as, [] => by simp [zipD]
  | a :: as, b :: bs => by
    show (zipD as bs).length + 1 = _
    rw [zipD_length as bs]
    simp only [List.length_cons]
    omega
theorem zipD_get : ∀ (as bs : List PyData) (i : Nat) (d : PyData), (zipD as bs)[i]? = some d → ∃ d1 d2, d = .tuple [d1, d2] ∧ as[i]? = some d1 ∧ bs[i]? = some d2
  | [], bs, i, d, h => by simp [zipD] at h
  | a :: as, [], i, d, h => by simp [zipD] at h
  | a :: as, b :: bs, 0, d, h => by
    simp [zipD] at h
    subst h
    exact ⟨a, b, rfl, rfl, rfl⟩
  | a :: as, b :: bs, i + 1, d, h => by
    obtain ⟨d1, d2, h1, h2, h3⟩ := zipD_get as bs i d (by simpa [zipD] using h)
    exact ⟨d1, d2, h1, by simpa using h2, by simpa using h3⟩
theorem gives_zipL {K : PySem.W.Frag} {B : List Addr} {H1 : Hp} {a b : Addr} {xs ys : List V} {ds es : List PyData} (h : Rd H1 a (.lst xs)) (n : a ∉ B) (s : Rps B H1 xs ds) (h' : Rd H1 b (.lst ys)) (n' : b ∉ B) (s' : Rps B H1 ys es) : Gives B H1 (Itz K a b) (zipD ds es) :=
  gives_pair (walk_zip (K := K) (a := a) (b := b) (xs := xs) (ys := ys) (n := min xs.length ys.length) rfl) (fun H2 k => ⟨.inl (k.rd n h), .inl (k.rd n' h')⟩) (by rw [zipD_length, s.length, s'.length]) fun i d hd => by
    obtain ⟨d1, d2, e, h1, h2⟩ := zipD_get _ _ _ _ hd
    obtain ⟨u, hu, ru⟩ := s.get h1
    obtain ⟨v, hv, rv⟩ := s'.get h2
    exact ⟨u, v, d1, d2, e, hu, hv, ru, rv⟩
theorem walk_zipT' {K : PySem.W.Frag} {a b : Addr} {xs ys : List V} {n : Nat} (hn : n = min xs.length ys.length) : Walk (RZ.ItzT K a b) n (fun H => SqT K H a xs ∧ SqT K H b ys) (YPair (fun i => xs[i]?) (fun i => ys[i]?)) := by
  subst hn
  refine ⟨fun i _ hi q => ?_, fun _ q => ⟨xs, ys, q.1, q.2, by omega⟩, fun i H v H' _ q y => ?_⟩
  · have h1 : i < xs.length := by omega
    have h2 : i < ys.length := by omega
    exact ⟨xs, ys, xs[i], ys[i], q.1, q.2, by simp [h1], by simp [h2]⟩
  · obtain ⟨T, x, z, h1, h2, h3, h4, h5⟩ := y
    exact ⟨T, x, z, h1, h2, h3, h4 xs q.1, h5 ys q.2⟩
theorem gives_zipT {K : PySem.W.Frag} {B : List Addr} {H1 : Hp} {a b : Addr} {xs ys : List V} {ds es : List PyData} (h : Rd H1 a (.tup xs)) (n : a ∉ B) (s : Rps B H1 xs ds) (h' : Rd H1 b (.tup ys)) (n' : b ∉ B) (s' : Rps B H1 ys es) : Gives B H1 (RZ.ItzT K a b) (zipD ds es) :=
  gives_pair (walk_zipT' (K := K) (a := a) (b := b) (xs := xs) (ys := ys) (n := min xs.length ys.length) rfl) (fun H2 k => ⟨.inl (k.rd n h), .inl (k.rd n' h')⟩) (by rw [zipD_length, s.length, s'.length]) fun i d hd => by
    obtain ⟨d1, d2, e, h1, h2⟩ := zipD_get _ _ _ _ hd
    obtain ⟨u, hu, ru⟩ := s.get h1
    obtain ⟨v, hv, rv⟩ := s'.get h2
    exact ⟨u, v, d1, d2, e, hu, hv, ru, rv⟩
section
variable {X : Cx} {r : Rho} {d d1 d2 d3 : PyData} {a b c e o tg : Expr} {es : List Expr} {ds : List PyData} {pos apos : Pos} {p q : Bool}
theorem di_list (h : PE X e (tD r (.list ds))) : PI X tg e (tI r ds) := (pi_list h).wkS fun σ H R ⟨B, D, E, k⟩ => ⟨B, D, E, fun v H1 s rv => by
  obtain ⟨a, xs, e, h, n, rs⟩ := rv.list_inv
  subst e
  exact ⟨a, rfl, ⟨xs, .inl h⟩, k _ H1 s (gives_list h n rs)⟩⟩
theorem di_tup (h : PE X e (tD r (.tuple ds))) : PI X tg e (tI r ds) := (pi_tup h).wkS fun σ H R ⟨B, D, E, k⟩ => ⟨B, D, E, fun v H1 s rv => by
  obtain ⟨a, xs, e, h, n, rs⟩ := rv.tup_inv
  subst e
  exact ⟨a, rfl, ⟨xs, .inl h⟩, k _ H1 s (gives_tup h n rs)⟩⟩
theorem di_str {z : Str} (h : PE X e (tD r (.str z))) : PI X tg e (tI r (signsD z)) := (pi_str h).wkS fun σ H R ⟨B, D, E, k⟩ => ⟨B, D, E, fun v H1 s rv => by
  cases rv
  exact ⟨z, rfl, k _ H1 s gives_str⟩⟩
theorem di_enum {pp tpos : Pos} {elts : List Expr} {kk : Nat} (hm : X.mg "enumerate" = none) (h : PE X e (tD r (.list ds))) (hg : Gl X "enumerate" := by rfl) (hs : starEach [e] X.env = [(false, eval e X.env)] := by rfl) : PI X (.Tuple elts kk tpos) (.Call (.Name "enumerate" pp) [e] [] pos) (tI r (enumD 0 ds)) :=
  (pi_enum hg hm (pa_cons h pa_nil hs) hs).wkS fun σ H R ⟨B, D, E, k⟩ => ⟨B, D, E, fun v H1 s rv => by
    obtain ⟨a, xs, e, h, n, rs⟩ := rv.list_inv
    subst e
    exact ⟨a, xs, rfl, .inl h, k _ H1 s (gives_enum h n rs)⟩⟩
theorem di_zipL {e2 : Expr} {ds2 : List PyData} {pp tpos : Pos} {elts : List Expr} {kk : Nat} (hm : X.mg "zip" = none) (h : PE X e (tD r (.list ds))) (h' : PE X e2 (tD r (.list ds2))) (hg : Gl X "zip" := by rfl) (hs : starEach [e, e2] X.env = (false, eval e X.env) :: starEach [e2] X.env := by rfl)
    (hs2 : starEach [e2] X.env = (false, eval e2 X.env) :: starEach [] X.env := by rfl) (hpl : (backTo pos (starEach [e2] X.env)).any (·.1) = false := by rfl) : PI X (.Tuple elts kk tpos) (.Call (.Name "zip" pp) [e, e2] [] pos) (tI r (zipD ds ds2)) :=
  (RZ.pi_zipA hg hm (pa_cons h (pa_cons h' pa_nil hs2) hs) hs hpl).wkS fun σ H R ⟨B, D, E, k⟩ => ⟨B, D, E, fun v H1 s1 rv => ⟨B, D.same s1, E.same s1, fun w H2 s2 rw_ => by
    obtain ⟨a, xs, e, h, n, rs⟩ := (rv.same s2).list_inv
    subst e
    obtain ⟨b, ys, e, h', n', rs'⟩ := rw_.list_inv
    subst e
    exact ⟨a, b, xs, ys, rfl, .inl ⟨.inl h, .inl h', k _ H2 (s1.trans s2) (gives_zipL h n rs h' n' rs')⟩⟩⟩⟩
theorem di_zipT {e2 : Expr} {ds2 : List PyData} {pp tpos : Pos} {elts : List Expr} {kk : Nat} (hm : X.mg "zip" = none) (h : PE X e (tD r (.tuple ds))) (h' : PE X e2 (tD r (.tuple ds2))) (hg : Gl X "zip" := by rfl) (hs : starEach [e, e2] X.env = (false, eval e X.env) :: starEach [e2] X.env := by rfl)
    (hs2 : starEach [e2] X.env = (false, eval e2 X.env) :: starEach [] X.env := by rfl) (hpl : (backTo pos (starEach [e2] X.env)).any (·.1) = false := by rfl) : PI X (.Tuple elts kk tpos) (.Call (.Name "zip" pp) [e, e2] [] pos) (tI r (zipD ds ds2)) :=
  (RZ.pi_zipA hg hm (pa_cons h (pa_cons h' pa_nil hs2) hs) hs hpl).wkS fun σ H R ⟨B, D, E, k⟩ => ⟨B, D, E, fun v H1 s1 rv => ⟨B, D.same s1, E.same s1, fun w H2 s2 rw_ => by
    obtain ⟨a, xs, e, h, n, rs⟩ := (rv.same s2).tup_inv
    subst e
    obtain ⟨b, ys, e, h', n', rs'⟩ := rw_.tup_inv
    subst e
    exact ⟨a, b, xs, ys, rfl, .inr ⟨.inl h, .inl h', k _ H2 (s1.trans s2) (gives_zipT h n rs h' n' rs')⟩⟩⟩⟩
end
/-! ### targets -/
/-- the target g stores d: the slots behind are u -/
def GD (g : TG) (r : Rho) (d : PyData) (u : Rho) (vs : List Nat) : Prop := ∀ (B : List Addr) (H : Hp) (x : V) (σ : L2.St) (Q : L2.St → Hp → Prop), Dom B H → Er B H r σ → Rp B H x d → (∀ σ2, Er B H u σ2 → (∀ j, j ∉ vs → σ2[j]? = σ[j]?) → σ2.length = σ.length → Q σ2 H) → g x σ H Q
theorem gd_name {r : Rho} {d : PyData} {i : Nat} : GD (gName i) r d (r.set i (some d)) [i] := fun B H x σ Q D E rx k =>
  k _ (E.set rx i) (fun j hj => List.getElem?_set_ne (fun e => hj (by simp [e]))) (by simp)
theorem gd_pair {K : PySem.W.Frag} {r : Rho} {d1 d2 : PyData} {i j : Nat} : GD (gTup K 2 (gCons (gName i) (gCons (gName j) gNil))) r (.tuple [d1, d2]) ((r.set i (some d1)).set j (some d2)) [i, j] := fun B H x σ Q D E rx k => by
  obtain ⟨a, xs, e, h, n, s⟩ := rx.tup_inv
  subst e
  obtain ⟨v, w, e, rv, rw_⟩ := s.two_inv
  subst e
  refine ⟨a, _, rfl, .inl h, rfl, v, _, rfl, w, _, rfl, rfl, ?_⟩
  exact k _ ((E.set rv i).set rw_ j) (fun l hl => by
    rw [List.getElem?_set_ne (fun e => hl (by simp [e])), List.getElem?_set_ne (fun e => hl (by simp [e]))]) (by simp)
theorem wipe_get {σ : L2.St} {j : Nat} : ∀ {vs : List Nat}, j ∈ vs → j < σ.length → (L2.wipe σ vs)[j]? = some none
  | [], h, _ => nomatch h
  | v :: vs, h, hl => by
    unfold L2.wipe
    by_cases e : v = j
    · subst e
      rw [List.getElem?_set_self (by rw [wipe_length]; exact hl)]
    · rw [List.getElem?_set_ne e]
      rcases List.mem_cons.mp h with z | z
      · exact absurd z.symm e
      · exact wipe_get z hl
theorem wipe_agree {σ τ : L2.St} {vs ws : List Nat} (hl : τ.length = σ.length) (h : ∀ j, j ∉ ws → τ[j]? = (L2.wipe σ vs)[j]?) (hw : ∀ j ∈ ws, j ∈ vs) : L2.wipe τ vs = L2.wipe σ vs := by
  apply List.ext_getElem?
  intro j
  by_cases hj : j ∈ vs
  · by_cases hlt : j < σ.length
    · rw [wipe_get hj hlt, wipe_get hj (by rw [hl]; exact hlt)]
    · rw [List.getElem?_eq_none (by rw [wipe_length]; omega), List.getElem?_eq_none (by rw [wipe_length]; omega)]
  · rw [wipe_out hj, h j (fun z => hj (hw j z))]
/-! ### comprehensions -/
section
variable {X : Cx} {r : Rho} {pos spos : Pos} {ds : List PyData}
/-- the reading of a comprehension: u d the slots with the item d, p d the tests' answer, f d the element -/
theorem lc_D {g : TG} {vs ws : List Nat} {u : PyData → Rho} {p : PyData → Bool} {f : PyData → PyData} {tt : TT} (hz : ds.length < sizeLine) (hg : ∀ d ∈ ds, GD g (wipeD r vs) d (u d) ws) (hw : ∀ j ∈ ws, j ∈ vs)
    (htt : ∀ d ∈ ds, ∀ σ H Q, tT (u d) (p d) σ H Q → tt σ H Q) (σ : L2.St) (H : Hp) (Q : VK) (z : tD r (.list ((ds.filter p).map f)) σ H Q) :
    tLc (tI r ds) g tt (fun σ H Q => ∃ d, (d ∈ ds ∧ p d = true) ∧ tD (u d) (f d) σ H Q) vs σ H Q := by
  obtain ⟨B, D, E, k⟩ := z
  refine ⟨B, D, E, fun J H1 s1 gv L hL => ?_⟩
  obtain ⟨G, Y, w, hG, hY⟩ := gv.ex
  have D1 := D.same s1
  have E1 := E.same s1
  have nL : L ∉ B := D1.out hL
  refine lc_it (g := g) (tt := tt) (te := fun σ H Q => ∃ d, (d ∈ ds ∧ p d = true) ∧ tD (u d) (f d) σ H Q) (vs := vs) (σ := σ) (Qd := fun H => Q (.ref L) H) w (fun i H2 => ∃ acc, H2 L = some (.lst acc) ∧ Same H1 H2 ∧ Rps (L :: B) H2 acc (((ds.take i).filter p).map f)) ⟨[], upd_same, same_new hL, .nil⟩ (fun i H2 hi ⟨acc, h1, h2, h3⟩ => hG H2 (Keep.of h2)) ?_ ?_
  · rintro i x H2 H3 hi ⟨acc, h1, h2, h3⟩ y
    have hd : ds[i]? = some ds[i] := List.getElem?_eq_getElem hi
    have hm : ds[i] ∈ ds := List.getElem_mem hi
    have D2 : Dom (L :: B) H2 := (D1.same h2).cons h1
    obtain ⟨s3, rx⟩ := hY i _ H2 x H3 (L :: B) hd (Keep.of h2) y D2 (fun b hb => List.mem_cons_of_mem _ hb) (fun b hb => by
      rcases List.mem_cons.mp hb with e | e
      · exact .inr (e ▸ hL)
      · exact .inl e)
    have D3 := D2.same s3
    have E3 : Er (L :: B) H3 (wipeD r vs) (L2.wipe σ vs) := ((E1.new hL).same (h2.trans s3)).wipe vs
    refine hg _ hm (L :: B) H3 x _ _ D3 E3 rx fun σ2 E4 hσ hσl => ⟨wipe_agree (by rw [hσl, wipe_length]) hσ hw, ?_⟩
    refine htt _ hm σ2 H3 _ ⟨L :: B, D3, E4, fun H4 s4 => ?_⟩
    have et : (ds.take (i + 1)).filter p = (ds.take i).filter p ++ (if p ds[i] then [ds[i]] else []) := by
      rw [List.take_succ, hd, List.filter_append]
      simp [List.filter_cons]
    cases hp : p ds[i] with
    | true =>
      rw [hp] at et
      refine iteT ⟨ds[i], ⟨hm, hp⟩, L :: B, D3.same s4, E4.same s4, fun v H5 s5 rv => ?_⟩
      have sA := (s3.trans s4).trans s5
      have hL5 := sA _ _ h1
      have r5 : Rps (L :: B) H5 acc (((ds.take i).filter p).map f) := h3.same sA
      have kk : Keep (L :: B) H5 (upd H5 L (.lst (acc ++ [v]))) := fun b o hb e => by
        rw [upd_ne (fun z => hb (by simp [z]))]
        exact e
      refine ⟨acc, hL5, ?_, acc ++ [v], upd_same, fun b o e => ?_, ?_⟩
      · rw [h3.length, List.length_map]
        have := List.length_filter_le p (ds.take i)
        rw [List.length_take] at this
        omega
      · rw [upd_ne (ne_of_none e hL)]
        exact sA b o (h2 b o e)
      · rw [et, List.map_append]
        exact (r5.append (.cons rv .nil)).keep kk
    | false =>
      rw [hp] at et
      refine iteF ⟨acc, s4 _ _ (s3 _ _ h1), (h2.trans s3).trans s4, ?_⟩
      rw [et]
      simp only [Bool.false_eq_true, if_false, List.append_nil]
      exact h3.same (s3.trans s4)
  · rintro H2 ⟨acc, h1, h2, h3⟩
    rw [List.take_length] at h3
    exact k _ H2 (s1.trans h2) (.lst h1 nL h3.less)
variable {elt tg iter : Expr} {scope : Scope} {own : List (Str × Nat)}
theorem tt_yes {u : Rho} : ∀ σ H Q, tT u true σ H Q → tYes σ H Q := fun σ H Q ⟨B, D, E, k⟩ => k H (Same.refl H)
/-- [elt for tg in iter] -/
theorem de_lc {g : TG} {ws : List Nat} {u : PyData → Rho} {f : PyData → PyData} (hc : X.calm = true) (hN : X.N.Nodup) (hi : PI X tg iter (tI r ds)) (ok : BlkOk X.N X.env.scope scope own) (hz : ds.length < sizeLine)
    (hgp : ∀ (s : Shared) (H : Hp) (C : Addr) (cl : List (Str × Addr)) (fp : List Addr), PG (X.blk s H scope (compEnvC scope cl C X.env) fp) tg g) (hg : ∀ d ∈ ds, GD g (wipeD r (own.map (·.2))) d (u d) ws) (hw : ∀ j ∈ ws, j ∈ own.map (·.2))
    (he : ∀ d ∈ ds, ∀ (s : Shared) (H : Hp) (C : Addr) (cl : List (Str × Addr)) (fp : List Addr), PE (X.blk s H scope (compEnvC scope cl C X.env) fp) elt (tD (u d) (f d))) (hs : ∀ x, foldedSetIterable iter X.env x = pure x := by intro _; rfl) :
    PE X (.ListComp elt [⟨tg, iter, [], 0⟩] scope pos) (tD r (.list (ds.map f))) := by
  have e : ds.filter (fun _ => true) = ds := List.filter_eq_self.mpr fun _ _ => rfl
  refine (pe_lc hc hN hi ok hgp (fun _ _ _ _ _ => pts_nil) (fun s H C cl fp => PE.ex (C := fun d => d ∈ ds ∧ (fun _ => true) d = true) fun d hd => he d hd.1 s H C cl fp) hs).wkS fun σ H Q z => lc_D (p := fun _ => true) hz hg hw (fun d _ => tt_yes) σ H Q (by rw [e]; exact z)
/-- [elt for tg in iter if t] -/
theorem de_lcIf {t : Expr} {g : TG} {ws : List Nat} {u : PyData → Rho} {p : PyData → Bool} {f : PyData → PyData} (hc : X.calm = true) (hN : X.N.Nodup) (hi : PI X tg iter (tI r ds)) (ok : BlkOk X.N X.env.scope scope own) (hz : ds.length < sizeLine)
    (hgp : ∀ (s : Shared) (H : Hp) (C : Addr) (cl : List (Str × Addr)) (fp : List Addr), PG (X.blk s H scope (compEnvC scope cl C X.env) fp) tg g) (hg : ∀ d ∈ ds, GD g (wipeD r (own.map (·.2))) d (u d) ws) (hw : ∀ j ∈ ws, j ∈ own.map (·.2))
    (ht : ∀ d ∈ ds, ∀ (s : Shared) (H : Hp) (C : Addr) (cl : List (Str × Addr)) (fp : List Addr), PT (X.blk s H scope (compEnvC scope cl C X.env) fp) t (tT (u d) (p d)))
    (he : ∀ d ∈ ds, p d = true → ∀ (s : Shared) (H : Hp) (C : Addr) (cl : List (Str × Addr)) (fp : List Addr), PE (X.blk s H scope (compEnvC scope cl C X.env) fp) elt (tD (u d) (f d))) (hs : ∀ x, foldedSetIterable iter X.env x = pure x := by intro _; rfl) :
    PE X (.ListComp elt [⟨tg, iter, [t], 0⟩] scope pos) (tD r (.list ((ds.filter p).map f))) :=
  (pe_lc hc hN hi ok hgp (fun s H C cl fp => pts_one (PT.ex (C := fun d => d ∈ ds) fun d hd => ht d hd s H C cl fp)) (fun s H C cl fp => PE.ex (C := fun d => d ∈ ds ∧ p d = true) fun d hd => he d hd.1 hd.2 s H C cl fp) hs).wkS fun σ H Q z =>
    lc_D hz hg hw (fun d hd σ H Q q => ⟨d, hd, q⟩) σ H Q z
end
end Sv
/-! part D5 -/
set_option Elab.async false
set_option linter.all false
set_option maxRecDepth 100000
set_option maxHeartbeats 4000000
namespace Sv
open PySem PySem.Spec PyProof.Rows L2
/-! ### operators by data -/
section
variable {X : Cx} {d d1 d2 d3 : PyData} {ds es : List PyData}
theorem od_I {g : Int → Int → V} {k : Int → Int → PyData} {i j : Int} (h : ∀ B H, Rp B H (g i j) (k i j)) : OpD (rI0 g) (.int i) (.int j) (k i j) := by
  intro B H x y Q D rx ry kk
  cases rx
  cases ry
  exact ⟨i, j, rfl, rfl, kk _ H (Same.refl H) (h B H)⟩
theorem od_IC {C : Int → Int → Prop} {g : Int → Int → V} {k : Int → Int → PyData} {i j : Int} (hc : C i j) (h : ∀ B H, Rp B H (g i j) (k i j)) : OpD (rI C g) (.int i) (.int j) (k i j) := by
  intro B H x y Q D rx ry kk
  cases rx
  cases ry
  exact ⟨i, j, rfl, rfl, hc, kk _ H (Same.refl H) (h B H)⟩
theorem od_add {i j : Int} : OpD (rI0 fun i j => .int (i + j)) (.int i) (.int j) (.int (i + j)) := od_I (k := fun i j => .int (i + j)) fun _ _ => .int _
theorem od_sub {i j : Int} : OpD (rI0 fun i j => .int (i - j)) (.int i) (.int j) (.int (i - j)) := od_I (k := fun i j => .int (i - j)) fun _ _ => .int _
theorem od_lt {i j : Int} : OpD (rI0 fun i j => .bl (decide (i < j))) (.int i) (.int j) (.bool (decide (i < j))) := od_I (k := fun i j => .bool (decide (i < j))) fun _ _ => .bl _
theorem od_le {i j : Int} : OpD (rI0 fun i j => .bl (decide (i ≤ j))) (.int i) (.int j) (.bool (decide (i ≤ j))) := od_I (k := fun i j => .bool (decide (i ≤ j))) fun _ _ => .bl _
theorem od_gt {i j : Int} : OpD (rI0 fun i j => .bl (decide (j < i))) (.int i) (.int j) (.bool (decide (j < i))) := od_I (k := fun i j => .bool (decide (j < i))) fun _ _ => .bl _
theorem od_ge {i j : Int} : OpD (rI0 fun i j => .bl (decide (j ≤ i))) (.int i) (.int j) (.bool (decide (j ≤ i))) := od_I (k := fun i j => .bool (decide (j ≤ i))) fun _ _ => .bl _
/-- scalars of which == tells as data does -/
def scalD : PyData → PyData → Bool
  | .none, .none => true | .none, .int _ => true | .int _, .none => true | .none, .bool _ => true | .bool _, .none => true | .none, .str _ => true | .str _, .none => true
  | .int _, .int _ => true | .bool _, .bool _ => true | .str _, .str _ => true
  | .int _, .str _ => true | .str _, .int _ => true | .bool _, .str _ => true | .str _, .bool _ => true
  | _, _ => false
theorem scalD_ok {B : List Addr} {H : Hp} {x y : V} (rx : Rp B H x d1) (ry : Rp B H y d2) (h : scalD d1 d2 = true) : scal x y = true ∧ decide (x = y) = PyData.eqv d1 d2 := by
  cases rx <;> cases ry <;> first
    | exact absurd h (by decide)
    | (refine ⟨rfl, ?_⟩; simp [PyData.eqv]; done)
    | (refine ⟨rfl, ?_⟩; rw [Bool.eq_iff_iff]; simp [PyData.eqv]; done)
    | exact absurd h Bool.false_ne_true
theorem od_eqF (h : scalD d1 d2 = true) : OpD rEq d1 d2 (.bool (PyData.eqv d1 d2)) := by
  intro B H x y Q D rx ry k
  obtain ⟨h1, h2⟩ := scalD_ok rx ry h
  exact ⟨h1, by rw [h2]; exact k _ H (Same.refl H) (.bl _)⟩
theorem od_neF (h : scalD d1 d2 = true) : OpD rNe d1 d2 (.bool (!PyData.eqv d1 d2)) := by
  intro B H x y Q D rx ry k
  obtain ⟨h1, h2⟩ := scalD_ok rx ry h
  exact ⟨h1, by rw [h2]; exact k _ H (Same.refl H) (.bl _)⟩
theorem od_eqI {i j : Int} : OpD rEq (.int i) (.int j) (.bool (decide (i = j))) := by
  intro B H x y Q D rx ry k
  cases rx
  cases ry
  exact ⟨rfl, by rw [show decide (V.int i = V.int j) = decide (i = j) by simp]; exact k _ H (Same.refl H) (.bl _)⟩
theorem od_neI {i j : Int} : OpD rNe (.int i) (.int j) (.bool (!decide (i = j))) := by
  intro B H x y Q D rx ry k
  cases rx
  cases ry
  exact ⟨rfl, by rw [show decide (V.int i = V.int j) = decide (i = j) by simp]; exact k _ H (Same.refl H) (.bl _)⟩
theorem od_eqS {i j : Str} : OpD rEq (.str i) (.str j) (.bool (decide (i = j))) := by
  intro B H x y Q D rx ry k
  cases rx
  cases ry
  exact ⟨rfl, by rw [show decide (V.str i = V.str j) = decide (i = j) by simp]; exact k _ H (Same.refl H) (.bl _)⟩
theorem od_neS {i j : Str} : OpD rNe (.str i) (.str j) (.bool (!decide (i = j))) := by
  intro B H x y Q D rx ry k
  cases rx
  cases ry
  exact ⟨rfl, by rw [show decide (V.str i = V.str j) = decide (i = j) by simp]; exact k _ H (Same.refl H) (.bl _)⟩
theorem od_eqD (h1 : SeqAt.shaped d1 = true) (h2 : SeqAt.shaped d2 = true) : OpD (rEqD X.K) d1 d2 (.bool (PyData.eqv d1 d2)) := by
  intro B H x y Q D rx ry k
  exact ⟨d1, d2, rx.dp, ry.dp, h1, h2, k _ H (Same.refl H) (.bl _)⟩
theorem od_neD (h1 : SeqAt.shaped d1 = true) (h2 : SeqAt.shaped d2 = true) : OpD (rNeD X.K) d1 d2 (.bool (!PyData.eqv d1 d2)) := by
  intro B H x y Q D rx ry k
  exact ⟨d1, d2, rx.dp, ry.dp, h1, h2, k _ H (Same.refl H) (.bl _)⟩
def isN : PyData → Bool
  | .none => true
  | _ => false
theorem isN_ok {B : List Addr} {H : Hp} {x : V} (rx : Rp B H x d) : decide (x = .non) = isN d := by
  cases rx <;> rfl
theorem od_isN : OpD (fun x y H Q => y = .non ∧ Q (.bl (decide (x = .non))) H) d .none (.bool (isN d)) := by
  intro B H x y Q D rx ry k
  cases ry
  exact ⟨rfl, by rw [isN_ok rx]; exact k _ H (Same.refl H) (.bl _)⟩
theorem od_notN : OpD (fun x y H Q => y = .non ∧ Q (.bl (!decide (x = .non))) H) d .none (.bool (!isN d)) := by
  intro B H x y Q D rx ry k
  cases ry
  exact ⟨rfl, by rw [isN_ok rx]; exact k _ H (Same.refl H) (.bl _)⟩
theorem od_ltS {i j : Str} : OpD (fun x y H Q => ∃ i j, x = .str i ∧ y = .str j ∧ Q (.bl (decide (i.cps.toList < j.cps.toList))) H) (.str i) (.str j) (.bool (decide (i.cps.toList < j.cps.toList))) := by
  intro B H x y Q D rx ry k
  cases rx
  cases ry
  exact ⟨i, j, rfl, rfl, k _ H (Same.refl H) (.bl _)⟩
theorem od_leS {i j : Str} : OpD (fun x y H Q => ∃ i j, x = .str i ∧ y = .str j ∧ Q (.bl (!decide (j.cps.toList < i.cps.toList))) H) (.str i) (.str j) (.bool (!decide (j.cps.toList < i.cps.toList))) := by
  intro B H x y Q D rx ry k
  cases rx
  cases ry
  exact ⟨i, j, rfl, rfl, k _ H (Same.refl H) (.bl _)⟩
theorem od_inC {c : Nat} {z : Str} : OpD (fun x y H Q => ∃ (c : Nat) (z : Str), x = .str ⟨#[c]⟩ ∧ y = .str z ∧ Q (.bl (decide (c ∈ z.cps.toList))) H) (.str ⟨#[c]⟩) (.str z) (.bool (decide (c ∈ z.cps.toList))) := by
  intro B H x y Q D rx ry k
  cases rx
  cases ry
  exact ⟨c, z, rfl, rfl, k _ H (Same.refl H) (.bl _)⟩
theorem od_ninC {c : Nat} {z : Str} : OpD (fun x y H Q => ∃ (c : Nat) (z : Str), x = .str ⟨#[c]⟩ ∧ y = .str z ∧ Q (.bl (!decide (c ∈ z.cps.toList))) H) (.str ⟨#[c]⟩) (.str z) (.bool (!decide (c ∈ z.cps.toList))) := by
  intro B H x y Q D rx ry k
  cases rx
  cases ry
  exact ⟨c, z, rfl, rfl, k _ H (Same.refl H) (.bl _)⟩
theorem od_addS {i j : Str} (h : i.length + j.length ≤ sizeLine) : OpD (fun x y H Q => ∃ i j, x = .str i ∧ y = .str j ∧ i.length + j.length ≤ sizeLine ∧ Q (.str (i ++ j)) H) (.str i) (.str j) (.str (i ++ j)) := by
  intro B H x y Q D rx ry k
  cases rx
  cases ry
  exact ⟨i, j, rfl, rfl, h, k _ H (Same.refl H) (.str _)⟩
/-! in, over flat items -/
def flatD : PyData → Bool
  | .none => true | .bool _ => true | .int _ => true | .str _ => true
  | _ => false
theorem flat_ok {B : List Addr} {H : Hp} {x : V} (rx : Rp B H x d) (h : flatD d = true) : flatV x = true := by
  cases rx <;> first | rfl | exact absurd h Bool.false_ne_true
theorem flats_ok {B : List Addr} {H : Hp} : ∀ {xs : List V} {ds : List PyData}, Rps B H xs ds → ds.all flatD = true → xs.all flatV = true
  | _, _, .nil, _ => rfl
  | _, _, .cons r s, h => by
    rw [List.all_cons, Bool.and_eq_true] at h
    rw [List.all_cons, flat_ok r h.1, flats_ok s h.2]
    rfl
theorem eqV_ok {B : List Addr} {H : Hp} {x y : V} (rx : Rp B H x d1) (ry : Rp B H y d2) (h1 : flatD d1 = true) (h2 : flatD d2 = true) : eqV x y = PyData.eqv d1 d2 := by
  cases rx <;> cases ry <;> first | exact absurd h1 Bool.false_ne_true | exact absurd h2 Bool.false_ne_true | (simp [PyData.eqv, eqV]; done)
theorem inV_ok {B : List Addr} {H : Hp} {x : V} (rx : Rp B H x d) (hd : flatD d = true) : ∀ {xs : List V} {ds : List PyData}, Rps B H xs ds → ds.all flatD = true → inV x xs = ds.any fun y => PyData.eqv y d
  | _, _, .nil, _ => rfl
  | _, _, .cons r s, h => by
    rw [List.all_cons, Bool.and_eq_true] at h
    have ih := inV_ok rx hd s h.2
    unfold inV at *
    rw [List.any_cons, List.any_cons, ih, eqV_ok r rx h.1 hd]
theorem od_inT (h1 : flatD d = true) (h2 : ds.all flatD = true) : OpD (rIn X.K false) d (.tuple ds) (.bool (ds.any fun y => PyData.eqv y d)) := by
  intro B H x y Q D rx ry k
  obtain ⟨a, xs, e, h, n, s⟩ := ry.tup_inv
  subst e
  refine ⟨a, xs, rfl, .inr (.inl h), flat_ok rx h1, flats_ok s h2, ?_⟩
  rw [inV_ok rx h1 s h2]
  exact k _ H (Same.refl H) (.bl _)
theorem od_inL (h1 : flatD d = true) (h2 : ds.all flatD = true) : OpD (rIn X.K false) d (.list ds) (.bool (ds.any fun y => PyData.eqv y d)) := by
  intro B H x y Q D rx ry k
  obtain ⟨a, xs, e, h, n, s⟩ := ry.list_inv
  subst e
  refine ⟨a, xs, rfl, .inl (.inl h), flat_ok rx h1, flats_ok s h2, ?_⟩
  rw [inV_ok rx h1 s h2]
  exact k _ H (Same.refl H) (.bl _)
theorem od_ninT (h1 : flatD d = true) (h2 : ds.all flatD = true) : OpD (rIn X.K true) d (.tuple ds) (.bool (!ds.any fun y => PyData.eqv y d)) := by
  intro B H x y Q D rx ry k
  obtain ⟨a, xs, e, h, n, s⟩ := ry.tup_inv
  subst e
  refine ⟨a, xs, rfl, .inr (.inl h), flat_ok rx h1, flats_ok s h2, ?_⟩
  rw [inV_ok rx h1 s h2]
  exact k _ H (Same.refl H) (.bl _)
theorem od_ninL (h1 : flatD d = true) (h2 : ds.all flatD = true) : OpD (rIn X.K true) d (.list ds) (.bool (!ds.any fun y => PyData.eqv y d)) := by
  intro B H x y Q D rx ry k
  obtain ⟨a, xs, e, h, n, s⟩ := ry.list_inv
  subst e
  refine ⟨a, xs, rfl, .inl (.inl h), flat_ok rx h1, flats_ok s h2, ?_⟩
  rw [inV_ok rx h1 s h2]
  exact k _ H (Same.refl H) (.bl _)
end
section
variable {X : Cx} {r : Rho} {d d1 d2 d3 : PyData} {a b c e : Expr} {es : List Expr} {ds : List PyData} {pos : Pos} {p q : Bool}
/-! a < b < c -/
theorem dt_chain {op op' : CmpOp} {r2 r3 : R2} (ho : OpR X (compareOp op) r2) (ho' : OpR X (compareOp op') r3) (h : OpD r2 d1 d2 (.bool p)) (h' : OpD r3 d2 d3 (.bool q)) (ha : PE X a (tD r d1)) (hb : PE X b (tD r d2)) (hc : PE X c (tD r d3))
    (hm : lastMarks [op, op'] [b, c] = false := by with_unfolding_all rfl) : PT X (.Compare a [op, op'] [b, c] pos) (tT r (p && q)) := (pt_chain ho ho' ha hb hc hm).wkS fun σ H Q ⟨B, D, E, k⟩ =>
  ⟨B, D, E, fun x H1 s1 rx => ⟨B, D.same s1, E.same s1, fun y H2 s2 ry => h B H2 x y _ ((D.same s1).same s2) (rx.same s2) ry fun v H3 s3 rv => by
    cases rv
    refine ⟨p, rfl, ?_⟩
    have s13 := s1.trans (s2.trans s3)
    cases p with
    | true => exact iteT ⟨B, D.same s13, E.same s13, fun z H4 s4 rz => h' B H4 y z _ ((D.same s13).same s4) ((ry.same s3).same s4) rz fun v H5 s5 rv => by cases rv; exact ⟨q, rfl, k H5 (s13.trans (s4.trans s5))⟩⟩
    | false => exact iteF ⟨false, rfl, k H3 s13⟩⟩⟩
/-! ### calls of the text's own defs -/
/-- a promise by data: F tells the answer -/
def spF (F : List PyData → PyData → Prop) : Sp := fun vs H Q _ => ∃ (B : List Addr) (ds : List PyData) (d : PyData), Dom B H ∧ Rps B H vs ds ∧ F ds d ∧ ∀ v H', Same H H' → Rp B H' v d → Q v H'
/-- the def named x stands and keeps the promise sp -/
structure Has (P : Program) (w : World) (K : PySem.W.Frag) (mg : Str → Option Value) (base : Heap) (CX : CXT) (k : Nat) (x : Str) (ps : List Str) (sp : Sp) : Prop where
  ex : ∃ (f : Addr) (fd : FuncData), mg x = some (.ref f) ∧ PySem.W.keepIn K (.ref f) = true ∧ Binds K fd ps [] ∧ FnOk P w K mg base CX k f fd ps sp
theorem Has.mono {P : Program} {w : World} {K : PySem.W.Frag} {mg : Str → Option Value} {base : Heap} {CX : CXT} {j k : Nat} {x : Str} {ps : List Str} {sp : Sp} (h : Has P w K mg base CX j x ps sp) (l : j ≤ k) : Has P w K mg base CX k x ps sp := by
  obtain ⟨f, fd, h1, h2, h3, h4⟩ := h
  exact ⟨f, fd, h1, h2, h3, h4.mono l⟩
theorem tCall_D {F : List PyData → PyData → Prop} {E0 : XK} (h : F ds d) (σ : L2.St) (H : Hp) (Q : VK) (z : tD r d σ H Q) : tCall (spF F) [] E0 (tA r ds) σ H Q := by
  obtain ⟨B, D, E, k⟩ := z
  exact ⟨B, D, E, fun vs H1 s1 rs => ⟨B, ds, d, D.same s1, by rw [List.append_nil]; exact rs, h, fun v H2 s2 rv => k v H2 (s1.trans s2) rv⟩⟩
theorem de_call {k : Nat} {x : Str} {ps : List Str} {F : List PyData → PyData → Prop} {pp : Pos} (G : Has X.prog X.w X.K X.mg X.base CX0 k x ps (spF F)) (h : F ds d) (hr : Room k X.A) (ha : PA X (e :: es) (tA r ds)) (hg : Gl X x := by rfl) (hdb : (x == ("__debug__" : Str)) = false := by decide)
    (he : starEach (e :: es) X.env = (false, eval e X.env) :: starEach es X.env := by rfl) (hpl : (backTo pos (starEach es X.env)).any (·.1) = false := by rfl) : PE X (.Call (.Name x pp) (e :: es) [] pos) (tD r d) := by
  obtain ⟨f, fd, hm, hk, hb, Fk⟩ := G.ex
  exact (pe_call Fk hr hg hm hk hb .nil pass0 ha hdb he hpl).wkS (tCall_D h)
/-! ### statements by data -/
def tS (r : Rho) (N : Rho → Prop) (R : PyData → Prop) : TS := fun Dn σ H => ∃ B, Dom B H ∧ Er B H r σ ∧ (∀ r' σ' H', N r' → Same H H' → Er B H' r' σ' → Dn.nx σ' H') ∧ (∀ d v H', R d → Same H H' → Rp B H' v d → Dn.rt v H')
variable {N : Rho → Prop} {R : PyData → Prop} {rest : List Stmt}
theorem ds_nil (h : N r) : PSs X [] (tS r N R) := pss_nil.wkS fun Dn σ H ⟨B, D, E, k, _⟩ => k r σ H h (Same.refl H) E
theorem ds_ret (he : PE X e (tD r d)) (h : R d) : PSs X (.Return (some e) pos :: rest) (tS r N R) := by
  refine ⟨fun pins s σ H Dn I q => ?_⟩
  obtain ⟨B, D, E, _, k⟩ := q
  refine wpAny_execs_cons (thn ((ps_ret he).run pins s σ H { Dn with nx := fun _ _ => False } I ⟨B, D, E, fun v H1 s1 rv => k d v H1 h s1 rv⟩) fun f s1 z => ?_)
  cases f with
  | next =>
    obtain ⟨_, _, _, z⟩ := z
    exact z.elim
  | ret v => exact z
  | brk => exact z
  | cont => exact z
theorem ds_set (i : Nat) {x : Str} {pos' : Pos} (he : PE X e (tD r d)) (hr : PSs X rest (tS (r.set i (some d)) N R)) (hN : X.N.Nodup) (hi : X.N[i]? = some x := by rfl) (hx : Loc X.env.scope x := by first | exact Or.inl rfl | exact Or.inr rfl) (hs : swapsWith e (some (.Name x pos')) pos.line X.env = pure false := by rfl)
    (hf : X.fn x = true ∨ X.env.scope.names.lookup x = some .local := by first | exact .inl rfl | exact .inr rfl) : PSs X (.Assign [.Name x pos'] e pos :: rest) (tS r N R) :=
  (pss_cons (ps_set hN hi hx he hs hf) hr).wkS fun Dn σ H ⟨B, D, E, k, k2⟩ => ⟨B, D, E, fun v H1 s1 rv => ⟨B, D.same s1, (E.same s1).set rv i, fun r' σ' H' n s2 E' => k r' σ' H' n (s1.trans s2) E', fun d v H' q s2 rv => k2 d v H' q (s1.trans s2) rv⟩⟩
/-- an if that may return, then the rest -/
theorem ds_if {A Bk : List Stmt} {N1 : Rho → Prop} (hc : PT X c (tT r p)) (ha : p = true → PSs X A (tS r N1 R)) (hb : p = false → PSs X Bk (tS r N1 R)) (hr : ∀ r', N1 r' → PSs X rest (tS r' N R)) : PSs X (.If c A Bk pos :: rest) (tS r N R) := by
  refine ⟨fun pins s σ H Dn I q => ?_⟩
  obtain ⟨B, D, E, k, k2⟩ := q
  refine wpAny_execs_cons (wpAny_If (thn (hc.run pins s σ H (fun c H1 => c = p ∧ Same H H1) I ⟨B, D, E, fun H1 s => ⟨rfl, s⟩⟩) fun b s1 ⟨H1, I1, e1, s1'⟩ => ?_))
  subst e1
  have fin : ∀ {A : List Stmt}, PSs X A (tS r N1 R) → wpAny (model X.prog X.w) X.A (execs A X.env) (fun f s₁ => match f with
      | .next => wpAny (model X.prog X.w) X.A (execs rest X.env) (SP X pins Dn) X.xe s₁
      | f => SP X pins Dn f s₁) X.xe s1 := fun {A} h => by
    refine thn (h.run pins s1 σ H1 { Dn with nx := fun σ' H' => ∃ r', N1 r' ∧ Same H H' ∧ Er B H' r' σ' } I1 ⟨B, D.same s1', E.same s1', fun r' σ' H' n s2 E' => ⟨r', n, s1'.trans s2, E'⟩, fun d v H' q s2 rv => k2 d v H' q (s1'.trans s2) rv⟩) fun f s2 z => ?_
    cases f with
    | next =>
      obtain ⟨σ', H', I', r', n, s3, E'⟩ := z
      exact (hr r' n).run pins s2 σ' H' Dn I' ⟨B, D.same s3, E', fun r' σ' H' n s2 E' => k r' σ' H' n (s3.trans s2) E', fun d v H' q s2 rv => k2 d v H' q (s3.trans s2) rv⟩
    | ret v => exact z
    | brk => exact z
    | cont => exact z
  cases b with
  | true => exact fin (ha rfl)
  | false => exact fin (hb rfl)
/-- if c: .. return; then the rest -/
theorem ds_ifR {A : List Stmt} (hc : PT X c (tT r p)) (ha : p = true → PSs X A (tS r (fun _ => False) R)) (hr : p = false → PSs X rest (tS r N R)) : PSs X (.If c A [] pos :: rest) (tS r N R) := by
  cases p with
  | true =>
    refine ds_if (N1 := fun _ => False) hc (fun h => ha h) (fun h => nomatch h) fun _ z => z.elim
  | false => exact ds_if (N1 := fun r' => r' = r) hc (fun h => nomatch h) (fun _ => ds_nil rfl) fun r' z => by subst z; exact hr rfl
/-- a for whose turns go on or return; p d: it goes on at d -/
theorem ds_for {tg iter : Expr} {body : List Stmt} {g : TG} {ws : List Nat} {u : PyData → Rho} {p : PyData → Bool} (hp : PassesOwn (model X.prog X.w) X.A X.env X.xe) (hc : X.calm = true) (hi : PI X tg iter (tI r ds)) (hgp : PG X tg g)
    (hg : ∀ d ∈ ds, GD g r d (u d) ws) (hk : ∀ d ∈ ds, ∀ B H σ, Er B H (u d) σ → Er B H r σ)
    (hb : ∀ d ∈ ds, PSs X body (tS (u d) (fun r' => p d = true ∧ r' = u d) (fun v => p d = false ∧ R v)))
    (hr : (∀ d ∈ ds, p d = true) → PSs X rest (tS r N R)) (hs : ∀ x, foldedSetIterable iter X.env x = pure x := by intro _; rfl) : PSs X (.For tg iter body [] pos :: rest) (tS r N R) := by
  have hbe : PSs X body (fun Dn σ H => ∃ d, d ∈ ds ∧ tS (u d) (fun r' => p d = true ∧ r' = u d) (fun v => p d = false ∧ R v) Dn σ H) := PSs.ex (C := fun d => d ∈ ds) hb
  have hfor := ps_for (pos := pos) hp hc hi hgp hbe hs
  refine ⟨fun pins s σ H Dn I q => ?_⟩
  obtain ⟨B, D, E, k, k2⟩ := q
  refine wpAny_execs_cons (thn (hfor.run pins s σ H { Dn with nx := fun σ' H' => (∀ d ∈ ds, p d = true) ∧ Same H H' ∧ Er B H' r σ' } I ⟨B, D, E, fun J H1 s1 gv => ?_⟩) fun f s2 z => ?_)
  · obtain ⟨G, Y, w, hG, hY⟩ := gv.ex
    refine for_it (D := { Dn with nx := fun σ' H' => (∀ d ∈ ds, p d = true) ∧ Same H H' ∧ Er B H' r σ' }) (g := g) (tb := fun Dn σ H => ∃ d, d ∈ ds ∧ tS (u d) (fun r' => p d = true ∧ r' = u d) (fun v => p d = false ∧ R v) Dn σ H) w (fun i σ2 H2 => (∀ d ∈ ds.take i, p d = true) ∧ Same H1 H2 ∧ Er B H2 r σ2) ⟨by simp, Same.refl _, E.same s1⟩ (fun i σ2 H2 hi h => hG H2 (Keep.of h.2.1)) ?_ ?_
    · rintro i x σ2 H2 H3 hi ⟨h1, h2, h3⟩ y
      have hd : ds[i]? = some ds[i] := List.getElem?_eq_getElem hi
      have hm : ds[i] ∈ ds := List.getElem_mem hi
      have D2 := (D.same s1).same h2
      obtain ⟨s3, rx⟩ := hY i _ H2 x H3 B hd (Keep.of h2) y D2 (fun b hb => hb) (fun b hb => .inl hb)
      refine hg _ hm B H3 x σ2 _ (D2.same s3) (h3.same s3) rx fun σ3 E3 _ _ => ?_
      refine ⟨ds[i], hm, B, D2.same s3, E3, fun r' σ' H' n s4 E' => ?_, fun d v H' q s4 rv => ?_⟩
      · obtain ⟨hp1, e⟩ := n
        subst e
        have : Same H1 H' := h2.trans (s3.trans s4)
        refine ⟨fun d hd' => ?_, this, hk _ hm _ _ _ E'⟩
        rw [List.take_succ, hd] at hd'
        rcases List.mem_append.mp hd' with z | z
        · exact h1 d z
        · simp at z
          rw [z]
          exact hp1
      · exact k2 d v H' q.2 (s1.trans (h2.trans (s3.trans s4))) rv
    · rintro σ2 H2 ⟨h1, h2, h3⟩
      rw [List.take_length] at h1
      exact ⟨h1, s1.trans h2, h3⟩
  · cases f with
    | next =>
      obtain ⟨σ', H', I', hall, s3, E'⟩ := z
      exact (hr hall).run pins s2 σ' H' Dn I' ⟨B, D.same s3, E', fun r' σ' H' n s2 E' => k r' σ' H' n (s3.trans s2) E', fun d v H' q s2 rv => k2 d v H' q (s3.trans s2) rv⟩
    | ret v => exact z
    | brk => exact z
    | cont => exact z
end
/-! ### defs -/
theorem er_start {B : List Addr} {H : Hp} : ∀ {vs : List V} {ds : List PyData} (n : Nat), Rps B H vs ds → Er B H (ds.map some ++ List.replicate n none) (vs.map some ++ List.replicate n none)
  | _, _, n, .nil => by
    induction n with
    | zero => exact .nil
    | succ n ih => exact .no (by simpa using ih)
  | _, _, n, .cons r s => .so r (er_start n s)
abbrev FnP (K : PySem.W.Frag) (x : Str) (st : Stmt) (f : Addr) (fd : FuncData) : Prop := FunD K x x (defArgs st) (defBody st) (defScope st) [] [] f fd
/-- the slots at a def's start -/
def rho0 (N : List Str) (ds : List PyData) : Rho := ds.map some ++ List.replicate (N.length - ds.length) none
theorem fn_ok {P : Program} {w : World} {K : PySem.W.Frag} {mg : Str → Option Value} {base : Heap} {x : Str} {st : Stmt} {f : Addr} {fd : FuncData} {Nm ps : List Str} {k : Nat} {F : List PyData → PyData → Prop} (hF : FnP K x st f fd) (S : FnScope Nm ps (defScope st)) (len : ∀ ds d, F ds d → ds.length = ps.length)
    (body : ∀ (cdv : Value) (A : Around) (outer : List Env) (s : Shared) (H : Hp) (E : XK), Room k (A.deeper (envOfC x (defScope st) s.heap.objs.size f cdv)) → ∀ ds d, F ds d →
      PSs (cxOf CX0 P w K mg base Nm x (defScope st) f cdv A outer s H E).nox (defBody st) (tS (rho0 Nm ds) (fun _ => d = .none) (fun v => v = d))) : FnOk P w K mg base CX0 (k + 1) f fd ps (spF F) := by
  refine hF.ok S (fun vs H Q E h => ?_) (fun cdv A outer s H vs Q E hr h => ?_)
  · obtain ⟨B, ds, d, D, rs, hf, _⟩ := h
    exact rs.length.trans (len ds d hf)
  · obtain ⟨B, ds, d, D, rs, hf, kk⟩ := h
    refine ⟨_, PSs.nox (body cdv A outer s H E hr ds d hf), B, D, ?_, fun r' σ' H' e s1 _ => ?_, fun d' v H' e s1 rv => ?_⟩
    · have e := rs.length
      unfold L2.start rho0
      rw [e]
      exact er_start _ rs
    · subst e
      exact kk .non H' s1 .non
    · subst e
      exact kk v H' s1 rv
theorem has_of {P : Program} {w : World} {K : PySem.W.Frag} {mg : Str → Option Value} {base : Heap} {CX : CXT} {x : Str} {st : Stmt} {f : Addr} {fd : FuncData} {ps : List Str} {k : Nat} {sp : Sp} (hF : FnP K x st f fd) (hm : mg x = some (.ref f))
    (hb : ∀ (kV doc pm : Value) (an : Option Addr) (cdv ct : Value) (us : List Value), us.length = ps.length → bindArgs (PySem.W.fnOf x x (defArgs st) (defBody st) (defScope st) .none kV doc pm an cdv ct) ⟨us, []⟩ = pure (ps.zip us)) (ok : FnOk P w K mg base CX k f fd ps sp) : Has P w K mg base CX k x ps sp :=
  ⟨f, fd, hm, hF.kp, hF.bindsN hb, ok⟩
end Sv
/-! part D6 -/
set_option Elab.async false
set_option linter.all false
set_option maxRecDepth 100000
set_option maxHeartbeats 4000000
namespace Sv
open PySem PySem.Spec PyProof.Rows L2
theorem loc_blk {scope : Scope} {env : Env} {cl : List (Str × Addr)} {C : Addr} {x : Str} (h : scope.names.lookup x = some .local) : (compEnvC scope cl C env).scope.names.lookup x = some .local := lookup_relabel_local h
section
variable {X : Cx} {r : Rho} {pos : Pos} {ds : List PyData} {elt iter t : Expr} {scope : Scope} {N0 : List Str} {sc0 : Scope}
/-- [elt for x in iter]; i the slot of x -/
theorem de_lcN (i : Nat) {x : Str} {px : Pos} {f : PyData → PyData} (hc : X.calm = true) (hN : X.N.Nodup) (ok : blkC N0 sc0 scope [(x, i)] = true) (hz : ds.length < sizeLine) (hi : PI X (.Name x px) iter (tI r ds))
    (he : ∀ d ∈ ds, ∀ (s : Shared) (H : Hp) (C : Addr) (cl : List (Str × Addr)) (fp : List Addr), PE (X.blk s H scope (compEnvC scope cl C X.env) fp) elt (tD ((wipeD r [i]).set i (some d)) (f d)))
    (e1 : X.N = N0 := by rfl) (e2 : X.env.scope = sc0 := by rfl) (hx : scope.names.lookup x = some .local := by rfl) (hxi : N0[i]? = some x := by rfl) (hs : ∀ x, foldedSetIterable iter X.env x = pure x := by intro _; rfl) :
    PE X (.ListComp elt [⟨.Name x px, iter, [], 0⟩] scope pos) (tD r (.list (ds.map f))) :=
  de_lc (own := [(x, i)]) (g := gName i) (u := fun d => (wipeD r [i]).set i (some d)) hc hN hi (by rw [e1, e2]; exact blkOk_by ok) hz (fun _ _ _ _ _ => pg_name (i := i) hN (by show X.N[i]? = some x; rw [e1]; exact hxi) (Or.inl (loc_blk hx)) (.inr (loc_blk hx))) (fun d _ => gd_name) (fun j hj => hj) he hs
theorem de_lcIfN (i : Nat) {x : Str} {px : Pos} {p : PyData → Bool} {f : PyData → PyData} (hc : X.calm = true) (hN : X.N.Nodup) (ok : blkC N0 sc0 scope [(x, i)] = true) (hz : ds.length < sizeLine) (hi : PI X (.Name x px) iter (tI r ds))
    (ht : ∀ d ∈ ds, ∀ (s : Shared) (H : Hp) (C : Addr) (cl : List (Str × Addr)) (fp : List Addr), PT (X.blk s H scope (compEnvC scope cl C X.env) fp) t (tT ((wipeD r [i]).set i (some d)) (p d)))
    (he : ∀ d ∈ ds, p d = true → ∀ (s : Shared) (H : Hp) (C : Addr) (cl : List (Str × Addr)) (fp : List Addr), PE (X.blk s H scope (compEnvC scope cl C X.env) fp) elt (tD ((wipeD r [i]).set i (some d)) (f d)))
    (e1 : X.N = N0 := by rfl) (e2 : X.env.scope = sc0 := by rfl) (hx : scope.names.lookup x = some .local := by rfl) (hxi : N0[i]? = some x := by rfl) (hs : ∀ x, foldedSetIterable iter X.env x = pure x := by intro _; rfl) :
    PE X (.ListComp elt [⟨.Name x px, iter, [t], 0⟩] scope pos) (tD r (.list ((ds.filter p).map f))) :=
  de_lcIf (own := [(x, i)]) (g := gName i) (u := fun d => (wipeD r [i]).set i (some d)) hc hN hi (by rw [e1, e2]; exact blkOk_by ok) hz (fun _ _ _ _ _ => pg_name (i := i) hN (by show X.N[i]? = some x; rw [e1]; exact hxi) (Or.inl (loc_blk hx)) (.inr (loc_blk hx))) (fun d _ => gd_name) (fun j hj => hj) ht he hs
/-- [elt for x, y in iter]: every item is a pair -/
theorem de_lcP (i j : Nat) {x y : Str} {px py pt : Pos} {kt : Nat} {f : PyData → PyData} (hc : X.calm = true) (hN : X.N.Nodup) (ok : blkC N0 sc0 scope [(x, i), (y, j)] = true) (hz : ds.length < sizeLine) (hi : PI X (.Tuple [.Name x px, .Name y py] kt pt) iter (tI r ds)) (hp : ∀ d ∈ ds, ∃ d1 d2, d = .tuple [d1, d2])
    (he : ∀ d1 d2, .tuple [d1, d2] ∈ ds → ∀ (s : Shared) (H : Hp) (C : Addr) (cl : List (Str × Addr)) (fp : List Addr), PE (X.blk s H scope (compEnvC scope cl C X.env) fp) elt (tD (((wipeD r [i, j]).set i (some d1)).set j (some d2)) (f (.tuple [d1, d2]))))
    (e1 : X.N = N0 := by rfl) (e2 : X.env.scope = sc0 := by rfl) (hx : scope.names.lookup x = some .local := by rfl) (hy : scope.names.lookup y = some .local := by rfl) (hxi : N0[i]? = some x := by rfl) (hyj : N0[j]? = some y := by rfl) (hs : ∀ x, foldedSetIterable iter X.env x = pure x := by intro _; rfl) :
    PE X (.ListComp elt [⟨.Tuple [.Name x px, .Name y py] kt pt, iter, [], 0⟩] scope pos) (tD r (.list (ds.map f))) := by
  refine de_lc (own := [(x, i), (y, j)]) (g := gTup X.K 2 (gCons (gName i) (gCons (gName j) gNil))) (u := fun d => match d with
    | .tuple [d1, d2] => ((wipeD r [i, j]).set i (some d1)).set j (some d2)
    | _ => r) hc hN hi (by rw [e1, e2]; exact blkOk_by ok) hz
    (fun _ _ _ _ _ => pg_tup hc (pgs_cons (pg_name (i := i) hN (by show X.N[i]? = some x; rw [e1]; exact hxi) (Or.inl (loc_blk hx)) (.inr (loc_blk hx))) (pgs_cons (pg_name (i := j) hN (by show X.N[j]? = some y; rw [e1]; exact hyj) (Or.inl (loc_blk hy)) (.inr (loc_blk hy))) pgs_nil)) rfl rfl) (fun d hd => ?_) (fun j hj => hj) (fun d hd s H C cl fp => ?_) hs
  · obtain ⟨d1, d2, e⟩ := hp d hd
    subst e
    exact gd_pair
  · obtain ⟨d1, d2, e⟩ := hp d hd
    subst e
    exact he d1 d2 hd s H C cl fp
/-! all over a comprehension -/
theorem map_bool {α : Type} {ds : List α} {f : α → PyData} {g : α → Bool} (h : ∀ d ∈ ds, f d = .bool (g d)) : ds.map f = (ds.map g).map .bool := by
  rw [List.map_map]
  exact List.map_congr_left h
theorem all_map_id {α : Type} {ds : List α} {g : α → Bool} : (ds.map g).all id = ds.all g := by
  rw [List.all_map]
  rfl
theorem de_allM {α : Type} {xs : List α} {f : α → PyData} {g : α → Bool} {e : Expr} {pp : Pos} (hc : X.calm = true) (hm : X.mg "all" = none) (hf : ∀ d ∈ xs, f d = .bool (g d)) (h : PE X e (tD r (.list (xs.map f)))) (hg : Gl X "all" := by rfl) (he : starEach [e] X.env = (false, eval e X.env) :: starEach [] X.env := by rfl) : PE X (.Call (.Name "all" pp) [e] [] pos) (tD r (.bool (xs.all g))) := by
  have q := de_all (pos := pos) (pp := pp) hc hm (map_bool hf) h hg he
  rw [all_map_id] at q
  exact q
/-! signs -/
theorem mem_signs {z : Str} {d : PyData} (h : d ∈ signsD z) : ∃ c, c ∈ z.cps.toList ∧ d = .str ⟨#[c]⟩ := by
  obtain ⟨c, h1, h2⟩ := List.mem_map.mp h
  exact ⟨c, h1, h2.symm⟩
def signOf : PyData → Nat
  | .str x => x.cps.getD 0 0
  | _ => 0
theorem signOf_str (c : Nat) : signOf (.str ⟨#[c]⟩) = c := rfl
theorem signs_length (z : Str) : (signsD z).length = z.length := by simp [signsD, Str.length]
theorem signs_all (z : Str) (g : Nat → Bool) : ((signsD z).all fun d => g (signOf d)) = z.cps.toList.all g := by
  unfold signsD
  rw [List.all_map]
  rfl
theorem signs_filter (z : Str) (g : Nat → Bool) : (signsD z).filter (fun d => g (signOf d)) = (z.cps.toList.filter g).map fun c => .str ⟨#[c]⟩ := by
  unfold signsD
  rw [List.filter_map]
  rfl
/-- all([elt for x in word]) -/
theorem de_allS {z : Str} (i : Nat) {x : Str} {px pp p2 : Pos} {g : Nat → Bool} (hc : X.calm = true) (hN : X.N.Nodup) (hm : X.mg "all" = none) (ok : blkC N0 sc0 scope [(x, i)] = true) (hz : z.length < sizeLine) (hi : PE X iter (tD r (.str z)))
    (he : ∀ c ∈ z.cps.toList, ∀ (s : Shared) (H : Hp) (C : Addr) (cl : List (Str × Addr)) (fp : List Addr), PE (X.blk s H scope (compEnvC scope cl C X.env) fp) elt (tD ((wipeD r [i]).set i (some (.str ⟨#[c]⟩))) (.bool (g c))))
    (e1 : X.N = N0 := by rfl) (e2 : X.env.scope = sc0 := by rfl) (hx : scope.names.lookup x = some .local := by rfl) (hxi : N0[i]? = some x := by rfl) (hs : ∀ x, foldedSetIterable iter X.env x = pure x := by intro _; rfl) (hg : Gl X "all" := by rfl)
    (hst : starEach [.ListComp elt [⟨.Name x px, iter, [], 0⟩] scope pos] X.env = (false, eval (.ListComp elt [⟨.Name x px, iter, [], 0⟩] scope pos) X.env) :: starEach [] X.env := by rfl) :
    PE X (.Call (.Name "all" pp) [.ListComp elt [⟨.Name x px, iter, [], 0⟩] scope pos] [] p2) (tD r (.bool (z.cps.toList.all g))) := by
  rw [← signs_all]
  refine de_allM hc hm (f := fun d => .bool (g (signOf d))) (fun d hd => rfl) (de_lcN i (f := fun d => .bool (g (signOf d))) hc hN ok (by rw [signs_length]; exact hz) (di_str hi) (fun d hd s H C cl fp => ?_) e1 e2 hx hxi hs) hg hst
  obtain ⟨c, hc', e⟩ := mem_signs hd
  subst e
  exact he c hc' s H C cl fp
end
end Sv
/-! part S1 -/
set_option Elab.async false
set_option linter.all false
set_option maxRecDepth 100000
set_option maxHeartbeats 4000000
/-! sorted(set(texts)): sets of texts that can be walked. -/
namespace Sv
open PySem PySem.Spec PyProof.Rows L2
def txK (e : Int × Value) : Str := match e.2 with
  | .str k _ => k
  | _ => Str.empty
def TxE (P : Program) (w : World) (e : Int × Value) : Prop := ∃ k tk, e.2 = Value.str k tk ∧ e.1 = (strKind P w).hash k
/-- at a: a set of the texts l -/
def StR (P : Program) (w : World) (h : Heap) (a : Addr) (l : List Str) : Prop :=
  ∃ o es ep t, h.get? a = some o ∧ o.ExactSet ∧ o.data = .set es ep t ∧ (∀ e ∈ es.toList, TxE P w e) ∧ (es.toList.map txK).Perm l ∧ l.Nodup ∧
    t.fits es.size = true ∧ Ris t.place.toList ∧ (w.params.followText "set-order" = true ∨ t.led = true)
section
variable {P : Program} {w : World} {A : Around} {E : Value → Shared → Prop} {s : Shared} {a : Addr} {l : List Str}
theorem StR.at {h h' : Heap} (q : StR P w h a l) (k : ∀ o, h.get? a = some o → h'.get? a = some o) : StR P w h' a l := by
  obtain ⟨o, es, ep, t, j1, j2⟩ := q
  exact ⟨o, es, ep, t, k o j1, j2⟩
theorem txIs (k : Str) (u : Tok) : (strKind P w).is k (.str k u) = true := PySem.Froz.is_str k u
theorem txE_elems {es : List (Int × Value)} (g : ∀ e ∈ es, TxE P w e) : ElemsOf (strKind P w) es := fun e me => by
  obtain ⟨k, tk, q1, q2⟩ := g e me
  exact ⟨⟨k, by rw [q1]; exact txIs k tk, q2⟩, by rw [q1] <;> rfl⟩
theorem txE_is {e : Int × Value} (g : TxE P w e) (k : Str) : (strKind P w).is k e.2 = true ↔ txK e = k := by
  obtain ⟨k0, tk, q1, _⟩ := g
  unfold txK
  rw [q1]
  constructor
  · intro q
    exact ((strKind P w).inj (.str k0 tk) k0 k (txIs k0 tk) q)
  · intro q
    dsimp only at q
    rw [q]
    exact txIs k tk
theorem txE_mem {es : List (Int × Value)} (g : ∀ e ∈ es, TxE P w e) (k : Str) : k ∈ es.map txK ↔ ∃ e ∈ es, (strKind P w).is k e.2 = true := by
  rw [List.mem_map]
  constructor
  · rintro ⟨e, me, q⟩
    exact ⟨e, me, (txE_is (g e me) k).2 q⟩
  · rintro ⟨e, me, q⟩
    exact ⟨e, me, (txE_is (g e me) k).1 q⟩
/-- the tail of an add -/
theorem stR_tail {g : Bool → Sem Unit} (gg : ∀ (b : Bool) (s₁ : Shared) (Q' : Unit → Shared → Prop), Q' () s₁ → wpAny (model P w) A (g b) Q' E s₁)
    {o : Obj} {es : Array (Int × Value)} {ep : Nat} {t : SetTable} (jo : s.heap.get? a = some o) (jx : o.ExactSet) (jd : o.data = .set es ep t)
    {es1 : Array (Int × Value)} {t2 : SetTable} {l' : List Str} (g1 : ∀ e ∈ es1.toList, TxE P w e) (p1 : (es1.toList.map txK).Perm l') (nd1 : l'.Nodup)
    (jb : es1.size < scanBound) (jf : t2.fits es1.size = true) (jr : Ris t2.place.toList) (jl : w.params.followText "set-order" = true ∨ t2.led = true) {dm : Bool} {R : Option Bool → Shared → Prop}
    (jR : ∀ h', Heap.SameBut a s.heap h' → StR P w h' a l' → R (some true) { s with heap := h' }) :
    wpAny (model P w) A (do
        storeSet a es1 t2
        if (!dm && t2.tooFull) = true then do
            g (relayAll t2 es1 (SetTable.grown es1.size)).2.2
            storeSet a (relayAll t2 es1 (SetTable.grown es1.size)).1 (relayAll t2 es1 (SetTable.grown es1.size)).2.1
            pure (some true)
          else pure (some true)) R E s := by
  refine wpAny_bind (wpAny_storeSet_of jo jd ?_ (fits_of_scanBound jb))
  have jo1 := L2.store_at (es' := es1) (t' := t2) jo jd
  have sb1 := Heap.SameBut.update s.heap a (Obj.putSet es1 t2)
  split
  · have y1 := relayAll_perm t2 es1 (SetTable.grown es1.size)
    have y2 := relayAll_fits t2 es1 (SetTable.grown es1.size)
    have y3 := relayAll_ris t2 es1 (SetTable.grown es1.size)
    have y4 := relayAll_led t2 es1 (SetTable.grown es1.size)
    generalize relayAll t2 es1 (SetTable.grown es1.size) = Z at y1 y2 y3 y4 ⊢
    obtain ⟨es2, t3, gave⟩ := Z
    dsimp only at y1 y2 y3 y4 ⊢
    have y5 : es2.size = es1.size := by rw [← Array.length_toList, y1.length_eq, Array.length_toList]
    refine wpAny_bind (gg _ _ _ ?_)
    refine wpAny_bind (wpAny_storeSet_of jo1 rfl ?_ (fits_of_scanBound (by rw [y5]; exact jb)))
    have jo2 := L2.store_at (es' := es2) (t' := t3) jo1 rfl
    refine wpAny_pure (jR _ (sb1.trans (Heap.SameBut.update _ a _)) ?_)
    exact ⟨_, es2, _, t3, jo2, jx, rfl, fun e me => g1 e (y1.mem_iff.mp me), (y1.map txK).trans p1, nd1, y2, y3, jl.imp id fun z => by rw [y4]; exact z⟩
  · exact wpAny_pure (jR _ sb1 ⟨_, es1, _, t2, jo1, jx, rfl, g1, p1, nd1, jf, jr, jl⟩)
/-- one more text -/
theorem stR_add {k : Str} {tk : Tok} {Q : Bool → Shared → Prop} (q0 : StR P w s.heap a l) (room : l.length + 1 < scanBound)
    (jQ : ∀ b h', Heap.SameBut a s.heap h' → StR P w h' a (if k ∈ l then l else k :: l) → Q b { s with heap := h' }) :
    wpAny (model P w) A (setAddHashed a (.str k tk) ((strKind P w).hash k)) Q E s := by
  obtain ⟨o, es, ep, t, jo, jx, jd, g, pm0, nd, jf, jr, jl⟩ := q0
  have jk : (strKind P w).is k (.str k tk) = true := txIs k tk
  have jc : (Value.str k tk).scannable = true := rfl
  have je : ElemsOf (strKind P w) es.toList := txE_elems g
  have jz : es.size = l.length := by rw [← Array.length_toList, ← pm0.length_eq, List.length_map]
  have jb : es.size < scanBound := by omega
  unfold setAddHashed setAddHashedIn
  refine wpAny_holding (wpAny_bind (wpAny_setState_of jo jd jf ?_))
  dsimp only
  rw [byScan_of jc jb je]
  simp only [↓reduceIte]
  unfold setAddByScan
  refine wpAny_bind ?_
  refine wpAny_bind (wpAny_rule ?_)
  refine wpAny_bind (wpAny_setScan_of jk jo jd jf je ?_)
  cases jfi : List.findIdx? (fun e => (strKind P w).is k e.2) es.toList with
  | some j =>
    dsimp only
    obtain ⟨mj, pj, _⟩ := List.findIdx?_eq_some_iff_getElem.mp jfi
    have ml : k ∈ l := pm0.mem_iff.mp ((txE_mem g k).2 ⟨es.toList[j], List.getElem_mem mj, pj⟩)
    refine wpAny_pure (wpAny_pure ?_)
    exact jQ _ s.heap (Heap.SameBut.refl a s.heap) (by rw [if_pos ml]; exact ⟨o, es, ep, t, jo, jx, jd, g, pm0, nd, jf, jr, jl⟩)
  | none =>
    dsimp only
    have nk : k ∉ l := fun z => by
      obtain ⟨e, me, q⟩ := (txE_mem g k).1 (pm0.mem_iff.mpr z)
      have c := List.findIdx?_eq_none_iff.mp jfi e me
      rw [q] at c
      cases c
    have gw : ∀ (b : Bool) {s₁ : Shared} {Q' : Unit → Shared → Prop}, Q' () s₁ → wpAny (model P w) A (match b with | true => rule "set.scan.the-table-gave-way" | false => pure ()) Q' E s₁ :=
      fun b s₁ Q' q => by cases b <;> first | exact wpAny_pure q | exact wpAny_rule q
    have y1 := layNew_perm t es ((strKind P w).hash k) (.str k tk)
    have y2 := layNew_fits t es ((strKind P w).hash k) (.str k tk)
    have y3 := layNew_ris t es ((strKind P w).hash k) (.str k tk) jr
    have y4 := layNew_led t es ((strKind P w).hash k) (.str k tk)
    generalize layNew t es ((strKind P w).hash k) (.str k tk) = Z at y1 y2 y3 y4 ⊢
    obtain ⟨es1, t1, dm, gave⟩ := Z
    dsimp only at y1 y2 y3 y4 ⊢
    rw [Array.toList_push] at y1
    have pc : es1.toList.Perm (((strKind P w).hash k, Value.str k tk) :: es.toList) := y1.trans (List.perm_append_singleton _ _)
    have g1 : ∀ e ∈ es1.toList, TxE P w e := fun e me => by
      rcases List.mem_cons.mp (pc.mem_iff.mp me) with z | z
      · rw [z]; exact ⟨k, tk, rfl, rfl⟩
      · exact g e z
    have p1 : (es1.toList.map txK).Perm (k :: l) := (pc.map txK).trans (by rw [List.map_cons]; exact List.Perm.cons k pm0)
    have nd1 : (k :: l).Nodup := List.nodup_cons.mpr ⟨nk, nd⟩
    have jb1 : es1.size < scanBound := by
      have z : es1.size = l.length + 1 := by rw [← Array.length_toList, pc.length_eq, List.length_cons, Array.length_toList, jz]
      rw [z]; exact room
    have jl1 : w.params.followText "set-order" = true ∨ t1.led = true := jl.imp id fun z => by rw [y4]; exact z
    have fin : ∀ h', Heap.SameBut a s.heap h' → StR P w h' a (k :: l) → Q true { s with heap := h' } := fun h' sb r => jQ true h' sb (by rw [if_neg nk]; exact r)
    refine wpAny_bind (gw _ ?_)
    split
    · refine wpAny_bind ?_
      rw [hashByValue_scannable 8 jc]
      refine wpAny_pure ?_
      refine stR_tail ?_ jo jx jd g1 p1 nd1 jb1 ?_ ?_ ?_ ?_
      · intro b s₁ Q' q; cases b <;> first | exact wpAny_pure q | exact wpAny_rule q
      · first | (split <;> first | exact y2 | exact SetTable.fits_plain_off y2) | exact y2
      · first | (split <;> exact y3) | exact y3
      · first | (split <;> exact jl1) | exact jl1
      · intro h' sb r; dsimp only; exact wpAny_pure (fin h' sb r)
    · refine wpAny_bind (wpAny_pure ?_)
      simp only [↓reduceIte]
      refine stR_tail ?_ jo jx jd g1 p1 nd1 jb1 y2 y3 jl1 ?_
      · intro b s₁ Q' q; cases b <;> first | exact wpAny_pure q | exact wpAny_rule q
      · intro h' sb r; dsimp only; exact wpAny_pure (fin h' sb r)
/-- a new set -/
theorem stR_fresh {h : Heap} (jo : h.get? a = some { cls := .type "set", dict := none, data := .set #[] 0 (.fresh 0 0 (!w.params.followText "set-order")) }) : StR P w h a [] :=
  ⟨_, #[], 0, _, jo, ⟨rfl, rfl, rfl⟩, rfl, fun e me => by simp at me, .nil, List.nodup_nil, rfl, List.Pairwise.nil, by
    show _ ∨ (!w.params.followText "set-order") = true
    cases w.params.followText "set-order"
    · exact .inr rfl
    · exact .inl rfl⟩
/-- the texts of the first i -/
def GotS (xs : List Str) (i : Nat) (l : List Str) : Prop := (∀ k, k ∈ l ↔ k ∈ xs.take i) ∧ l.length ≤ i
theorem gotS_next {xs : List Str} {i : Nat} {k : Str} (g : GotS xs i l) (q : xs[i]? = some k) : GotS xs (i + 1) (if k ∈ l then l else k :: l) := by
  have e : xs.take (i + 1) = xs.take i ++ [k] := by rw [List.take_succ, q] <;> rfl
  constructor
  · intro j
    rw [e, List.mem_append, List.mem_singleton, ← g.1 j]
    by_cases c : k ∈ l
    · rw [if_pos c]
      exact ⟨.inl, fun z => z.elim id fun z => by rw [z]; exact c⟩
    · rw [if_neg c, List.mem_cons]
      exact Or.comm
  · by_cases c : k ∈ l
    · rw [if_pos c]; exact Nat.le_succ_of_le g.2
    · rw [if_neg c]; exact Nat.succ_le_succ g.2
/-- the loop of set.update over texts -/
theorem upd_texts {I : Addr} {fp wr : List Addr} {G : Array GenState → Array GenState → Prop} {n : Nat} {Pv : Nat → Value → Prop} {St : Nat → Shared → Prop} {R : Result → Shared → Prop}
    (W : WalksS P w A.in1 I fp wr G n Pv St) (S : Addr) (nS : S ∉ fp) (xs : List Str) (en : n = xs.length) (few : xs.length + 1 < scanBound) (jv : ∀ i v, Pv i v → ∃ k tk, xs[i]? = some k ∧ v = .str k tk) :
    ∀ (k i : Nat) (s : Shared), n - i = k → i ≤ n → St i s → (∃ l, StR P w s.heap S l ∧ GotS xs i l) →
      (∀ s' l, Moved (S :: wr) G s s' → StR P w s'.heap S l → GotS xs n l → R (.ok (.ret .none)) s') →
      codeAny (model P w) A (.builtin "set.update.loop" ⟨[.ref S, .ref I], []⟩) R s := by
  have nw : S ∉ wr := fun z => nS (W.sub _ z)
  have sw : ∀ b ∈ wr, b ∈ S :: wr := fun b hb => List.mem_cons_of_mem _ hb
  intro k
  induction k with
  | zero =>
    intro i s ek li st ⟨l, jS, g⟩ jR
    have ei : i = n := by omega
    subst ei
    refine codeAny_builtin F.entry_set_update_loop ?_
    rw [Around.under_plainId F.plain_set_update_loop _]
    show wpAny _ A.in1 (pyNext (.ref I) >>= _) _ _ s
    refine wpAny_bind (W.done s _ _ st fun s' mv => ?_)
    show wpAny _ A.in1 (ret Value.none) _ _ s'
    exact wpAny_pure (jR s' l (mv.mono sw) (jS.at fun o e => mv.heap S o nw e) g)
  | succ k ih =>
    intro i s ek li st ⟨l, jS, g⟩ jR
    have lt : i < n := by omega
    refine codeAny_builtin F.entry_set_update_loop ?_
    rw [Around.under_plainId F.plain_set_update_loop _]
    show wpAny _ A.in1 (pyNext (.ref I) >>= _) _ _ s
    refine wpAny_bind (W.item i s _ _ lt st fun v s' pv st' mv => ?_)
    obtain ⟨x, tk, hx, rfl⟩ := jv i v pv
    have jS' : StR P w s'.heap S l := jS.at fun o e => mv.heap S o nw e
    show wpAny _ A.in1 (holding [Value.str x tk] (setAdd S (.str x tk)) >>= _) _ _ s'
    refine wpAny_bind (wpAny_holding ?_)
    unfold setAdd
    refine wpAny_holding ?_
    refine wpAny_bind ((strKind P w).pyHash (k := x) (txIs _ _) ?_)
    refine stR_add (s := { s' with toks := s'.toks + 1 }) jS' (by have := g.2; omega) fun b h' sb r => ?_
    refine wpAny_pure ⟨plainId_quiet F.plain_set_update_loop _, ih (i + 1) _ (by omega) lt (W.frame _ s' _ _ st' (Nat.le_add_right _ _) fun b hb o e => ?_) ⟨_, r, gotS_next g hx⟩ fun s2 l2 m2 r2 g2 => ?_⟩
    · rw [sb.2 b (fun z : b = S => nS (by rw [← z]; exact hb))]; exact e
    · refine jR s2 l2 (Moved.trans W.gtrans ((mv.mono sw).then_heap (Nat.le_add_right _ _) fun b o hb e => ?_) m2) r2 g2
      rw [sb.2 b (fun z : b = S => hb (by rw [z]; exact List.mem_cons_self))]; exact e
theorem strs_get {vs : List Value} {xs : List Str} (r : StrsAre vs xs) : ∀ {i : Nat} {v : Value}, vs[i]? = some v → ∃ k tk, xs[i]? = some k ∧ v = .str k tk := by
  induction r with
  | nil => intro i v q; simp at q
  | @cons k tk vs ks _ ih =>
    intro i v q
    cases i with
    | zero =>
      simp at q
      exact ⟨k, tk, rfl, q.symm⟩
    | succ i => exact ih (by simpa using q)
end
end Sv
/-! part S2 -/
set_option Elab.async false
set_option linter.all false
set_option maxRecDepth 100000
set_option maxHeartbeats 4000000
namespace Sv
open PySem PySem.Spec PyProof.Rows L2
section
variable {P : Program} {w : World} {A : Around} {E : Value → Shared → Prop} {s : Shared}
abbrev newSetO (w : World) : Obj := { cls := .type "set", dict := none, data := .set #[] 0 (.fresh 0 0 (!w.params.followText "set-order")) }
/-- set(xs), xs a list of texts -/
theorem call_setL {l : Addr} {items : Array Value} (xs : List Str) {Q : Value → Shared → Prop} (hh : A.handled = none) (hl : s.heap.IsList l items) (hit : StrsAre items.toList xs) (few : xs.length + 1 < scanBound)
    (h : ∀ (h' : Heap) (tk : Nat) L, StR P w h' s.heap.objs.size L → GotS xs xs.length L → (∀ b o, s.heap.get? b = some o → h'.get? b = some o) → Q (.ref s.heap.objs.size) { s with heap := h', toks := tk }) :
    wpAny (model P w) A (call (.type "set") [.ref l]) Q E s := by
  have zi : items.size = xs.length := by rw [← StrsAre.len_eq hit, Array.length_toList]
  obtain ⟨c, tl, hmro⟩ := F.called_set.mro
  have hmade := F.called_set.made
  have hsub := F.called_set.sub
  refine wpAny_call (codeAny_of_tree ?_)
  show wpAny _ _ (callAny (.type "set") _) _ _ _
  refine wpAny_pure ⟨Code.quiet_builtin _ (by decide +kernel), codeAny_builtin F.entry_type_call ?_⟩
  rw [Around.under_plain (weight_type_call_type "set" [.ref l] []) rfl]
  have h1 := F.called_set.notType
  have h2 := F.called_set.canCreate
  have hct := F.typeCall_set_1 (.ref l)
  repeat (any_goals (first | assumption | wp_step))
  refine codeAny_mono (code_set_led1 (.ref l) (E := E) (Q₁ := fun obj s₁ => obj = .ref s.heap.objs.size ∧ s₁ = { s with heap := s.heap.push (newSetO w) }) ⟨rfl, rfl⟩) fun r s₁ hr => ?_
  cases r with
  | error e => exact hr
  | ok fl =>
    cases fl with
    | ret obj =>
      obtain ⟨rfl, rfl⟩ := hr
      have hS : (s.heap.push (newSetO w)).get? s.heap.objs.size = some (newSetO w) := Heap.get?_push_size _ rfl
      have hT : Shared.TypeIs { s with heap := s.heap.push (newSetO w) } (.ref s.heap.objs.size) "set" := ⟨_, hS, rfl⟩
      have hli := F.called_set.init.lookup
      have hbi := F.called_set.init.bind (.ref s.heap.objs.size)
      repeat (any_goals (first | assumption | wp_step))
      refine codeAny_mono (codeAny_call_builtin (R := wants (fun r s₂ => r = .none ∧ ∃ h' tk L, s₂ = { s with heap := h', toks := tk } ∧ StR P w h' s.heap.objs.size L ∧ GotS xs xs.length L ∧
          (∀ b o, s.heap.get? b = some o → h'.get? b = some o)) E) F.called_set.init.plain F.entry_set_init (check_set_init_1 hT ?_)) fun r₂ s₂ hr₂ => ?_
      · obtain ⟨ol, hol, hcl, nl, hdl⟩ := hl
        obtain ⟨ocls, odict, odata, oslots⟩ := ol
        simp only at hcl hdl
        subst hcl; subst hdl
        have hol' : (s.heap.push (newSetO w)).get? l = some { cls := .type "list", dict := odict, data := .seq items nl, slots := oslots } := Heap.get?_push_of_some _ hol
        have hsls := F.sub_list_set
        have hslf := F.sub_list_frozenset
        have hne : (Value.type "list" == Value.type "dict") = false := by decide
        have hl1 : (s.heap.push (newSetO w)).IsList l items := ⟨_, hol', rfl, nl, rfl⟩
        unfold Builtin.«set.__init__» noKeywords Builtin.Frozenset.updateFrom
        generalize hPI : pyIter = PI
        wp_walk
        subst hPI
        refine wpAny_pyIter_list hl1 ?_
        refine wpAny_bind (wpAny_runValue ?_)
        have hlS : l < s.heap.objs.size := Heap.lt_size hol
        have hh3 : A.in1.in1.in1.handled = none := by simp [hh]
        have hneI : l ≠ (s.heap.push (newSetO w)).objs.size := by
          rw [Heap.size_push]; exact Nat.ne_of_lt (Nat.lt_succ_of_lt hlS)
        have hSf : s.heap.objs.size ∉ [(s.heap.push (newSetO w)).objs.size, l] := by
          rw [Heap.size_push]; simp only [List.mem_cons, List.mem_singleton, List.not_mem_nil, or_false, not_or]
          exact ⟨Nat.ne_of_lt (Nat.lt_succ_self _), Nat.ne_of_gt hlS⟩
        have hval : ∀ (i : Nat) (v : Value), items[i]? = some v → ∃ k tk, xs[i]? = some k ∧ v = .str k tk := fun i v hv => strs_get hit (by rw [Array.getElem?_toList]; exact hv)
        refine upd_texts (P := P) ((Walks.list hh3 _ l hneI items).toS) s.heap.objs.size
          hSf xs zi few hval (items.size - 0) 0 _ (by omega) (Nat.zero_le _)
          ⟨⟨_, Heap.get?_push_size _ rfl, rfl, rfl⟩, (hl1.push _)⟩ ?hS0 ?hR
        case hS0 =>
          exact ⟨[], stR_fresh (Heap.get?_push_of_some _ hS), fun k => by simp, Nat.le_refl _⟩
        case hR =>
          intro s' L hm hS' g'
          obtain ⟨h', g2, d', tk', os'⟩ := s'
          have eg : g2 = s.gens := hm.gens
          have ed : d' = s.drawn := hm.drawn
          have eo : os' = s.os := hm.os
          subst eg; subst ed; subst eo
          show wpAny _ _ _ _ _ _
          refine wpAny_pure ?_
          show wpAny _ _ (ret Value.none) _ _ _
          rw [zi] at g'
          refine wpAny_pure ⟨rfl, h', tk', L, rfl, hS', g', fun b o e => ?_⟩
          have lt := Heap.lt_size e
          refine hm.heap b o (fun z => ?_) (Heap.get?_push_of_some _ (Heap.get?_push_of_some _ e))
          rcases List.mem_cons.mp z with z | z
          · exact absurd lt (by rw [z]; exact Nat.lt_irrefl _)
          · rw [Heap.size_push] at z
            have z := List.mem_singleton.mp z
            exact absurd lt (by rw [z]; exact Nat.not_lt_of_le (Nat.le_succ _))
      · cases r₂ with
        | error e => exact hr₂
        | ok fl₂ =>
          cases fl₂ with
          | ret r =>
            obtain ⟨rfl, h', tk, L, rfl, hS', g', hk'⟩ := hr₂
            repeat (any_goals (first | assumption | wp_step))
            exact h _ _ _ hS' g' hk'
          | _ => exact hr₂.elim
    | _ => exact hr.elim
/-- set(xs), xs a tuple of texts -/
theorem call_setT {l : Addr} {items : Array Value} (xs : List Str) {Q : Value → Shared → Prop} (hh : A.handled = none) (hl : s.heap.IsTuple l items) (hit : StrsAre items.toList xs) (few : xs.length + 1 < scanBound)
    (h : ∀ (h' : Heap) (tk : Nat) L, StR P w h' s.heap.objs.size L → GotS xs xs.length L → (∀ b o, s.heap.get? b = some o → h'.get? b = some o) → Q (.ref s.heap.objs.size) { s with heap := h', toks := tk }) :
    wpAny (model P w) A (call (.type "set") [.ref l]) Q E s := by
  have zi : items.size = xs.length := by rw [← StrsAre.len_eq hit, Array.length_toList]
  obtain ⟨c, tl, hmro⟩ := F.called_set.mro
  have hmade := F.called_set.made
  have hsub := F.called_set.sub
  refine wpAny_call (codeAny_of_tree ?_)
  show wpAny _ _ (callAny (.type "set") _) _ _ _
  refine wpAny_pure ⟨Code.quiet_builtin _ (by decide +kernel), codeAny_builtin F.entry_type_call ?_⟩
  rw [Around.under_plain (weight_type_call_type "set" [.ref l] []) rfl]
  have h1 := F.called_set.notType
  have h2 := F.called_set.canCreate
  have hct := F.typeCall_set_1 (.ref l)
  repeat (any_goals (first | assumption | wp_step))
  refine codeAny_mono (code_set_led1 (.ref l) (E := E) (Q₁ := fun obj s₁ => obj = .ref s.heap.objs.size ∧ s₁ = { s with heap := s.heap.push (newSetO w) }) ⟨rfl, rfl⟩) fun r s₁ hr => ?_
  cases r with
  | error e => exact hr
  | ok fl =>
    cases fl with
    | ret obj =>
      obtain ⟨rfl, rfl⟩ := hr
      have hS : (s.heap.push (newSetO w)).get? s.heap.objs.size = some (newSetO w) := Heap.get?_push_size _ rfl
      have hT : Shared.TypeIs { s with heap := s.heap.push (newSetO w) } (.ref s.heap.objs.size) "set" := ⟨_, hS, rfl⟩
      have hli := F.called_set.init.lookup
      have hbi := F.called_set.init.bind (.ref s.heap.objs.size)
      repeat (any_goals (first | assumption | wp_step))
      refine codeAny_mono (codeAny_call_builtin (R := wants (fun r s₂ => r = .none ∧ ∃ h' tk L, s₂ = { s with heap := h', toks := tk } ∧ StR P w h' s.heap.objs.size L ∧ GotS xs xs.length L ∧
          (∀ b o, s.heap.get? b = some o → h'.get? b = some o)) E) F.called_set.init.plain F.entry_set_init (check_set_init_1 hT ?_)) fun r₂ s₂ hr₂ => ?_
      · obtain ⟨ol, hol, hcl, nl, hdl⟩ := hl
        obtain ⟨ocls, odict, odata, oslots⟩ := ol
        simp only at hcl hdl
        subst hcl; subst hdl
        have hol' : (s.heap.push (newSetO w)).get? l = some { cls := .type "tuple", dict := odict, data := .seq items nl, slots := oslots } := Heap.get?_push_of_some _ hol
        have hsls := F.sub_tuple_set
        have hslf := F.sub_tuple_frozenset
        have hne : (Value.type "tuple" == Value.type "dict") = false := by decide
        have hl1 : (s.heap.push (newSetO w)).IsTuple l items := ⟨_, hol', rfl, nl, rfl⟩
        unfold Builtin.«set.__init__» noKeywords Builtin.Frozenset.updateFrom
        generalize hPI : pyIter = PI
        wp_walk
        subst hPI
        refine wpAny_pyIter_tuple hl1 ?_
        refine wpAny_bind (wpAny_runValue ?_)
        have hlS : l < s.heap.objs.size := Heap.lt_size hol
        have hh3 : A.in1.in1.in1.handled = none := by simp [hh]
        have hneI : l ≠ (s.heap.push (newSetO w)).objs.size := by
          rw [Heap.size_push]; exact Nat.ne_of_lt (Nat.lt_succ_of_lt hlS)
        have hSf : s.heap.objs.size ∉ [(s.heap.push (newSetO w)).objs.size, l] := by
          rw [Heap.size_push]; simp only [List.mem_cons, List.mem_singleton, List.not_mem_nil, or_false, not_or]
          exact ⟨Nat.ne_of_lt (Nat.lt_succ_self _), Nat.ne_of_gt hlS⟩
        have hval : ∀ (i : Nat) (v : Value), items[i]? = some v → ∃ k tk, xs[i]? = some k ∧ v = .str k tk := fun i v hv => strs_get hit (by rw [Array.getElem?_toList]; exact hv)
        refine upd_texts (P := P) ((Walks.tuple hh3 _ l hneI items).toS) s.heap.objs.size
          hSf xs zi few hval (items.size - 0) 0 _ (by omega) (Nat.zero_le _)
          ⟨⟨_, Heap.get?_push_size _ rfl, rfl, rfl⟩, (hl1.push _)⟩ ?hS0 ?hR
        case hS0 =>
          exact ⟨[], stR_fresh (Heap.get?_push_of_some _ hS), fun k => by simp, Nat.le_refl _⟩
        case hR =>
          intro s' L hm hS' g'
          obtain ⟨h', g2, d', tk', os'⟩ := s'
          have eg : g2 = s.gens := hm.gens
          have ed : d' = s.drawn := hm.drawn
          have eo : os' = s.os := hm.os
          subst eg; subst ed; subst eo
          show wpAny _ _ _ _ _ _
          refine wpAny_pure ?_
          show wpAny _ _ (ret Value.none) _ _ _
          rw [zi] at g'
          refine wpAny_pure ⟨rfl, h', tk', L, rfl, hS', g', fun b o e => ?_⟩
          have lt := Heap.lt_size e
          refine hm.heap b o (fun z => ?_) (Heap.get?_push_of_some _ (Heap.get?_push_of_some _ e))
          rcases List.mem_cons.mp z with z | z
          · exact absurd lt (by rw [z]; exact Nat.lt_irrefl _)
          · rw [Heap.size_push] at z
            have z := List.mem_singleton.mp z
            exact absurd lt (by rw [z]; exact Nat.not_lt_of_le (Nat.le_succ _))
      · cases r₂ with
        | error e => exact hr₂
        | ok fl₂ =>
          cases fl₂ with
          | ret r =>
            obtain ⟨rfl, h', tk, L, rfl, hS', g', hk'⟩ := hr₂
            repeat (any_goals (first | assumption | wp_step))
            exact h _ _ _ hS' g' hk'
          | _ => exact hr₂.elim
    | _ => exact hr.elim
end
end Sv
/-! part M1 -/
set_option Elab.async false
set_option linter.all false
set_option maxRecDepth 100000
set_option maxHeartbeats 4000000
/-! texts in order, in plain Lean -/
namespace Sv
open PySem PySem.Spec PyProof.Rows L2
def LtS (x y : Str) : Prop := x.cps.toList < y.cps.toList
instance (x y : Str) : Decidable (LtS x y) := inferInstanceAs (Decidable (x.cps.toList < y.cps.toList))
theorem ltS_irr (x : Str) : ¬ LtS x x := List.lt_irrefl _
theorem ltS_tr {x y z : Str} (h : LtS x y) (k : LtS y z) : LtS x z := List.lt_trans h k
theorem str_of {x y : Str} (h : x.cps.toList = y.cps.toList) : x = y := by
  cases x
  cases y
  congr
  exact Array.ext' h
theorem ltS_tot (x y : Str) : LtS x y ∨ x = y ∨ LtS y x := by
  by_cases h : LtS x y
  · exact .inl h
  · by_cases k : LtS y x
    · exact .inr (.inr k)
    · refine .inr (.inl (str_of ?_))
      have h1 : y.cps.toList ≤ x.cps.toList := h
      have h2 : x.cps.toList ≤ y.cps.toList := k
      exact List.le_antisymm h2 h1
/-- ascending -/
def ascS : List Str → Bool
  | x :: y :: r => decide (LtS x y) && ascS (y :: r)
  | _ => true
theorem asc_pw : ∀ {xs : List Str}, ascS xs = true → xs.Pairwise LtS
  | [], _ => .nil
  | [x], _ => List.pairwise_singleton _ _
  | x :: y :: r, h => by
    unfold ascS at h
    rw [Bool.and_eq_true, decide_eq_true_eq] at h
    have t := asc_pw h.2
    refine List.pairwise_cons.mpr ⟨fun z hz => ?_, t⟩
    rcases List.mem_cons.mp hz with e | hz
    · rw [e]; exact h.1
    · exact ltS_tr h.1 ((List.pairwise_cons.mp t).1 z hz)
theorem pw_asc : ∀ {xs : List Str}, xs.Pairwise LtS → ascS xs = true
  | [], _ => rfl
  | [x], _ => rfl
  | x :: y :: r, h => by
    obtain ⟨h1, h2⟩ := List.pairwise_cons.mp h
    unfold ascS
    rw [Bool.and_eq_true, decide_eq_true_eq]
    exact ⟨h1 y List.mem_cons_self, pw_asc h2⟩
theorem pw_uniq : ∀ {xs ys : List Str}, xs.Pairwise LtS → ys.Pairwise LtS → (∀ k, k ∈ xs ↔ k ∈ ys) → xs = ys
  | [], [], _, _, _ => rfl
  | [], y :: ys, _, _, h => absurd ((h y).mpr List.mem_cons_self) (by simp)
  | x :: xs, [], _, _, h => absurd ((h x).mp List.mem_cons_self) (by simp)
  | x :: xs, y :: ys, p, q, h => by
    obtain ⟨p1, p2⟩ := List.pairwise_cons.mp p
    obtain ⟨q1, q2⟩ := List.pairwise_cons.mp q
    have e : x = y := by
      rcases List.mem_cons.mp ((h x).mp List.mem_cons_self) with e | e
      · exact e
      · rcases List.mem_cons.mp ((h y).mpr List.mem_cons_self) with f | f
        · exact f.symm
        · exact absurd (ltS_tr (p1 y f) (q1 x e)) (ltS_irr x)
    subst e
    congr 1
    refine pw_uniq p2 q2 fun k => ⟨fun hk => ?_, fun hk => ?_⟩
    · rcases List.mem_cons.mp ((h k).mp (List.mem_cons_of_mem _ hk)) with z | z
      · rw [z] at hk; exact absurd (p1 x hk) (ltS_irr x)
      · exact z
    · rcases List.mem_cons.mp ((h k).mpr (List.mem_cons_of_mem _ hk)) with z | z
      · rw [z] at hk; exact absurd (q1 x hk) (ltS_irr x)
      · exact z
def insS (k : Str) : List Str → List Str
  | [] => [k]
  | x :: r => if LtS k x then k :: x :: r else if k = x then x :: r else x :: insS k r
theorem mem_insS {k j : Str} : ∀ {l : List Str}, j ∈ insS k l ↔ j = k ∨ j ∈ l
  | [] => by simp [insS]
  | x :: r => by
    unfold insS
    by_cases h : LtS k x
    · rw [if_pos h, List.mem_cons]
    · rw [if_neg h]
      by_cases e : k = x
      · rw [if_pos e]
        constructor
        · exact .inr
        · rintro (z | z)
          · rw [z, e]; exact List.mem_cons_self
          · exact z
      · rw [if_neg e, List.mem_cons, List.mem_cons, mem_insS]
        constructor
        · rintro (z | z | z)
          · exact .inr (.inl z)
          · exact .inl z
          · exact .inr (.inr z)
        · rintro (z | z | z)
          · exact .inr (.inl z)
          · exact .inl z
          · exact .inr (.inr z)
theorem pw_insS {k : Str} : ∀ {l : List Str}, l.Pairwise LtS → (insS k l).Pairwise LtS
  | [], _ => List.pairwise_singleton _ _
  | x :: r, h => by
    obtain ⟨h1, h2⟩ := List.pairwise_cons.mp h
    unfold insS
    by_cases c : LtS k x
    · rw [if_pos c]
      refine List.pairwise_cons.mpr ⟨fun z hz => ?_, h⟩
      rcases List.mem_cons.mp hz with e | hz
      · rw [e]; exact c
      · exact ltS_tr c (h1 z hz)
    · rw [if_neg c]
      by_cases e : k = x
      · rw [if_pos e]; exact h
      · rw [if_neg e]
        refine List.pairwise_cons.mpr ⟨fun z hz => ?_, pw_insS h2⟩
        rcases mem_insS.mp hz with q | q
        · rw [q]
          rcases ltS_tot k x with z | z | z
          · exact absurd z c
          · exact absurd z e
          · exact z
        · exact h1 z q
/-- sorted(set(xs)) -/
def canS (xs : List Str) : List Str := xs.foldr insS []
theorem mem_canS {j : Str} : ∀ {xs : List Str}, j ∈ canS xs ↔ j ∈ xs
  | [] => by simp [canS]
  | x :: r => by
    show j ∈ insS x (canS r) ↔ _
    rw [mem_insS, mem_canS, List.mem_cons]
theorem pw_canS : ∀ {xs : List Str}, (canS xs).Pairwise LtS
  | [] => .nil
  | x :: r => pw_insS pw_canS
theorem canS_of {xs ys : List Str} (h : ys.Pairwise LtS) (m : ∀ k, k ∈ ys ↔ k ∈ xs) : ys = canS xs := pw_uniq h pw_canS fun k => (m k).trans mem_canS.symm
theorem canS_eq {xs : List Str} : decide (xs = canS xs) = ascS xs := by
  rw [Bool.eq_iff_iff, decide_eq_true_eq]
  constructor
  · intro h
    rw [h]
    exact pw_asc pw_canS
  · intro h
    exact canS_of (asc_pw h) fun _ => Iff.rfl
theorem canS_len {xs : List Str} : (canS xs).length ≤ xs.length := by
  have : ∀ {k : Str} {l : List Str}, (insS k l).length ≤ l.length + 1 := by
    intro k l
    induction l with
    | nil => exact Nat.le_refl _
    | cons x r ih =>
      unfold insS
      split
      · exact Nat.le_refl _
      · split
        · exact Nat.le_succ _
        · exact Nat.succ_le_succ ih
  induction xs with
  | nil => exact Nat.le_refl _
  | cons x r ih => exact Nat.le_trans this (Nat.succ_le_succ ih)
theorem ltCps_iff : ∀ {a b : List Nat}, ltCps a b = true ↔ a < b
  | [], [] => by simp [ltCps]
  | [], _ :: _ => by simp [ltCps]
  | _ :: _, [] => by simp [ltCps]
  | a :: r, b :: t => by
    unfold ltCps
    rw [List.cons_lt_cons_iff, Bool.or_eq_true, Bool.and_eq_true, ltCps_iff]
    simp
theorem risingS_pw : ∀ {p : Str} {l : List Str}, risingS p l = true → (p :: l).Nodup → ascS (p :: l) = true
  | p, [], _, _ => rfl
  | p, x :: r, h, nd => by
    unfold risingS at h
    rw [Bool.and_eq_true, Bool.not_eq_true'] at h
    obtain ⟨n1, n2⟩ := List.nodup_cons.mp nd
    unfold ascS
    rw [Bool.and_eq_true, decide_eq_true_eq]
    refine ⟨?_, risingS_pw h.2 n2⟩
    rcases ltS_tot p x with z | z | z
    · exact z
    · exact absurd (by rw [z]; exact List.mem_cons_self) n1
    · rw [ltCps_iff.mpr z] at h
      exact absurd h.1 (by decide)
theorem sortedS_pw {l : List Str} (h : sortedS l = true) (nd : l.Nodup) : l.Pairwise LtS := by
  cases l with
  | nil => exact .nil
  | cons p l => exact asc_pw (risingS_pw h nd)
section
variable {P : Program} {w : World} {A : Around} {E : Value → Shared → Prop} {s : Shared} {a : Addr} {l : List Str}
/-- list.sort of texts, any number -/
theorem sort_texts {vs : List Value} {ss : List Str} {n : Nat} {R : Fin → Shared → Prop} (ho : s.heap.get? a = some (seqObj "list" vs.toArray n)) (hS : StrsAre vs ss) (hL : vs.length ≤ sizeLine)
    (h : ∀ (out : Array Value) (ss' : List Str), StrsAre out.toList ss' → ss'.Perm ss → sortedS ss' = true → R (.done (.ret .none)) { s with heap := sortedHeap s.heap a vs out }) :
    wpAny (model P w) A (Builtin.«list.sort» ⟨[.ref a], []⟩) R E s := by
  refine list_sort_treeKAny strKind_oneLt ho hS.keysOf (fun v₁ v₂ rest e => keyKind_strs (by rw [← e]; exact hS)) hL fun st' hp hs => ?_
  obtain ⟨ss', h1, h2, h3⟩ := sorted_out_str hS hp hs
  exact h _ ss' h1 h2 h3
theorem texts_of : ∀ (l : List Value), (∀ v ∈ l, ∃ k tk, v = Value.str k tk) → StrsAre l (l.map fun v => txK (0, v))
  | [], _ => .nil
  | v :: l, h => by
    obtain ⟨k, tk, rfl⟩ := h v List.mem_cons_self
    exact .cons k tk (texts_of l fun u hu => h u (List.mem_cons_of_mem _ hu))
/-- sorted(set of texts) -/
theorem sorted_textset {Q : Value → Shared → Prop} (R : StR P w s.heap a l) (hh : A.handled = none) (few : l.length < scanBound)
    (hQ : ∀ s' p (out : Array Value) (c : Nat) (ns : List Str), (∀ b o, s.heap.get? b = some o → s'.heap.get? b = some o) → s'.gens = s.gens → s'.os = s.os → s.heap.objs.size ≤ p →
      s'.heap.get? p = some (seqObj "list" out c) → StrsAre out.toList ns → ns.Pairwise LtS → ns.Perm l → Q (.ref p) s') :
    wpAny (model P w) A (call (.builtin "sorted") [.ref a]) Q E s := by
  obtain ⟨o, es, ep, t, jo, jx, jd, g, pm0, nd, jf, jr, jl⟩ := R
  have jz : es.size = l.length := by rw [← Array.length_toList, ← pm0.length_eq, List.length_map]
  have jb : es.size < scanBound := by omega
  refine Calls.call_function_entry kind_sorted plain_sorted entry_sorted (args_sorted1 _) ?_
  unfold Builtin.«sorted»
  refine wpAny_bind (m := checkCount "sorted" 1 1 _) (wpAny_pure ?_)
  refine wpAny_bind (collect_set (A := A.in1) hh ⟨o, jo, jx.1, jd⟩ jf jb jr jl fun s1 vs k1 hz g1 o1 pm => ?_)
  have vl : vs.length = l.length := by rw [pm.length_eq, List.length_map, Array.length_toList]; exact jz
  have vz : vs.length ≤ sizeLine := by rw [vl]; exact fits_of_scanBound few
  have vS : StrsAre vs (vs.map fun v => txK (0, v)) := texts_of vs fun v hv => by
    obtain ⟨e, me, q⟩ := List.mem_map.mp (pm.mem_iff.mp hv)
    obtain ⟨k, tk, q1, _⟩ := g e me
    exact ⟨k, tk, by rw [← q]; exact q1⟩
  have pk : (vs.map fun v => txK (0, v)).Perm l := by
    have q := pm.map fun v => txK (0, v)
    rw [List.map_map] at q
    exact q.trans pm0
  refine wpAny_bind (wpAny_newList ?_ vz)
  have oL : (s1.heap.push (seqObj "list" vs.toArray 0)).get? s1.heap.objs.size = some (seqObj "list" vs.toArray 0) := Heap.get?_push_size _ rfl
  refine wpAny_bind (wpAny_holding (wpAny_call_entry slot_list_sort ⟨_, oL, rfl⟩ entry_list_sort (sort_texts oL vS vz fun out ns' a1 a2 a3 => ⟨_, rfl, ?_⟩) (args_list_sort _)))
  obtain ⟨c, hc⟩ := sortedHeap_at (vs := vs) (out := out) oL
  have pn : ns'.Perm l := a2.trans pk
  refine wpAny_pure ⟨_, rfl, hQ _ s1.heap.objs.size out c ns' (fun b u e => ?_) g1 o1 hz hc a1 (sortedS_pw a3 (pn.nodup_iff.mpr nd)) pn⟩
  have q := k1 b u e
  have lt := Heap.lt_size q
  show (sortedHeap (s1.heap.push (seqObj "list" vs.toArray 0)) s1.heap.objs.size vs out).get? b = some u
  rw [sortedHeap_old (Nat.ne_of_lt lt) (by rw [size_push']; exact Nat.lt_succ_of_lt lt)]
  exact Heap.get?_push_of_some _ q
end
/-- a set of texts among what is tracked -/
def StO (P : Program) (w : World) (a : Addr) (l : List Str) : HO := .ext fun h => StR P w h a l
section
variable {X : Cx}
theorem stO_new {P : Program} {w : World} {H : Hp} {h : Heap} {a : Addr} {l : List Str} (R : StR P w h a l) : ObjOk P w H h a (StO P w a l) := by
  have ⟨o, _, _, _, ho, _⟩ := R
  exact ⟨R, ⟨o, ho⟩, fun h1 h2 p k => StR.at p k⟩
/-- set(xs) -/
def rSetOfS (K : PySem.W.Frag) (P : Program) (w : World) : List V → Hp → VK → Prop := fun xs H Q => ∃ (p : Addr) (ks : List Str), xs = [V.ref p] ∧ (SqL K H p (ks.map V.str) ∨ SqT K H p (ks.map V.str)) ∧ ks.length + 1 < scanBound ∧
  ∀ a l, H a = none → (∀ k, k ∈ l ↔ k ∈ ks) → l.length ≤ ks.length → Q (.ref a) (upd H a (StO P w a l))
theorem cr_setOfS (hc : X.calm = true) : CallR X (.type "set") (rSetOfS X.K X.prog X.w) := by
  intro pins s σ H xs us Q I r h
  obtain ⟨p, ks, rfl, hp, few, q⟩ := h
  rw [Vals.ref1 r]
  have fin : ∀ (h' : Heap) (tk : Nat) (L : List Str), StR X.prog X.w h' s.heap.objs.size L → GotS ks ks.length L → (∀ b o, s.heap.get? b = some o → h'.get? b = some o) → EP X pins σ Q (.ref s.heap.objs.size) { s with heap := h', toks := tk } := fun h' tk L R g k => by
    refine ⟨.ref s.heap.objs.size, upd H s.heap.objs.size (StO X.prog X.w s.heap.objs.size L), I.laid (t' := tk) k (Nat.le_refl _) (stO_new R), rfl, q _ L (I.hok.fresh (Nat.le_refl _)) (fun k => ?_) g.2⟩
    have z := g.1 k
    rw [List.take_length] at z
    exact z
  rcases hp with hp | hp
  · obtain ⟨its, rv, pl, hz⟩ := I.list hp
    exact call_setL ks (I.ok.hd hc) pl.isList (by simpa using rv.strs) few fin
  · obtain ⟨its, rv, pl, hz⟩ := I.tuple hp
    exact call_setT ks (I.ok.hd hc) pl (by simpa using rv.strs) few fin
/-- sorted(set) -/
def rSortedOfS (P : Program) (w : World) : List V → Hp → VK → Prop := fun vs H Q => ∃ (a : Addr) (l : List Str), vs = [V.ref a] ∧ H a = some (StO P w a l) ∧ l.length < scanBound ∧
  ∀ (p : Addr), H p = none → Q (.ref p) (upd H p (.lst ((canS l).map V.str)))
theorem cr_sortedOfS (hc : X.calm = true) : CallR X (.builtin "sorted") (rSortedOfS X.prog X.w) := by
  intro pins s σ H vs us Q I r h
  obtain ⟨a, l, rfl, ha, few, q⟩ := h
  have R : StR X.prog X.w s.heap a l := (I.hok a _ ha).1
  rw [Vals.ref1 r]
  refine sorted_textset R (I.ok.hd hc) few fun s' p out c ns k g o hp hg hi hs pm => ?_
  have e0 : ns = canS l := canS_of hs fun k => pm.mem_iff
  subst e0
  have hlen : ((canS l).map V.str).length ≤ sizeLine := by rw [List.length_map, pm.length_eq]; exact fits_of_scanBound few
  have hn : H p = none := I.hok.fresh hp
  have J : Inv X pins σ (upd H p (.lst ((canS l).map V.str))) { s with heap := s'.heap, gens := s'.gens, drawn := s'.drawn, toks := s'.toks } :=
    I.call (ch := []) (Un.laid k hp hn) (I.hok.laid k hp ⟨hlen, out.toList, c, vals_of_strs hi, hg⟩) (by rw [g]; exact I.bare) (fun _ z => nomatch z)
  have e : s' = { s with heap := s'.heap, gens := s'.gens, drawn := s'.drawn, toks := s'.toks } := by
    cases s'
    cases s
    cases o
    rfl
  rw [e]
  exact ⟨.ref p, _, J, rfl, q p hn⟩
/-! by data -/
variable {r : Rho} {e : Expr} {pos : Pos} {xs : List Str} {d : PyData}
theorem canS_congr {l xs : List Str} (m : ∀ k, k ∈ l ↔ k ∈ xs) : canS l = canS xs := pw_uniq pw_canS pw_canS fun k => (mem_canS.trans (m k)).trans mem_canS.symm
theorem de_sortSet {pp p2 q2 : Pos} (hc : X.calm = true) (hm : X.mg "sorted" = none) (hm2 : X.mg "set" = none) (hd : d = .list (xs.map .str) ∨ d = .tuple (xs.map .str)) (few : xs.length + 1 < 4096) (h : PE X e (tD r d)) (hg : Gl X "sorted" := by rfl) (hg2 : Gl X "set" := by rfl)
    (he : starEach [e] X.env = (false, eval e X.env) :: starEach [] X.env := by rfl) (he2 : starEach [.Call (.Name "set" p2) [e] [] q2] X.env = (false, eval (.Call (.Name "set" p2) [e] [] q2) X.env) :: starEach [] X.env := by rfl) :
    PE X (.Call (.Name "sorted" pp) [.Call (.Name "set" p2) [e] [] q2] [] pos) (tD r (.list ((canS xs).map .str))) := by
  have h1 : PE X (.Call (.Name "set" p2) [e] [] q2) _ := pe_callTy (cr_setOfS hc) hg2 hm2 boot_set (pa_cons h pa_nil he) (by decide) (by decide) he (by rfl)
  have h2 := pe_callB (pos := pos) (p := pp) (cr_sortedOfS hc) hg hm (by decide +kernel) (pa_cons h1 pa_nil he2) (by decide) (by decide) he2 (by rfl)
  refine h2.wkS fun σ H Q ⟨B, D, E, k⟩ => ?_
  refine ⟨B, D, E, fun v H1 s1 rv => ?_⟩
  have fin : ∀ p (ys : List V), v = .ref p → ys = xs.map V.str → (SqL X.K H1 p ys ∨ SqT X.K H1 p ys) → rSetOfS X.K X.prog X.w [v] H1 fun x H2 => rSortedOfS X.prog X.w [x] H2 Q := fun p ys e1 e2 hs => by
    subst e1
    subst e2
    refine ⟨p, xs, rfl, hs, few, fun a l ha hm hl => ⟨a, l, rfl, upd_same, by have : scanBound = 4096 := rfl; omega, fun p2 hp2 => ?_⟩⟩
    rw [canS_congr hm]
    have s2 := same_new (o := StO X.prog X.w a l) ha
    exact k _ _ (s1.trans (s2.trans (same_new hp2))) (Rp.lst_new hp2 ((D.same s1).same s2) (Rps.str _))
  rcases hd with hd | hd
  · subst hd
    obtain ⟨p, ys, e1, q, n, s⟩ := rv.list_inv
    exact fin p ys e1 s.strs (.inl (.inl q))
  · subst hd
    obtain ⟨p, ys, e1, q, n, s⟩ := rv.tup_inv
    exact fin p ys e1 s.strs (.inr (.inl q))
end
end Sv
/-! part M2 -/
set_option Elab.async false
set_option linter.all false
set_option maxRecDepth 100000
set_option maxHeartbeats 4000000
/-! what the texts say, in plain Lean -/
namespace Sv
open PySem PySem.Spec PyProof.Rows L2 TL PySem.NumText
/-! ### cutting -/
theorem spl_bounds (S : List Nat) : ∀ (l : List Nat) (k : Nat) (acc : List Nat), (∀ p ∈ spl S k acc l, p.length ≤ acc.length + l.length) ∧ (spl S k acc l).length ≤ l.length + 1 ∧ spl S k acc l ≠ []
  | [], k, acc => by
    rw [spl_nil]
    exact ⟨fun p hp => by rw [List.mem_singleton.mp hp]; exact Nat.le_refl _, Nat.le_refl _, by simp⟩
  | c :: r, 0, acc => by
    cases h : pre S (c :: r) with
    | true =>
      rw [spl_hit h]
      obtain ⟨h1, h2, h3⟩ := spl_bounds S r (S.length - 1) []
      refine ⟨fun p hp => ?_, Nat.succ_le_succ h2, by simp⟩
      rcases List.mem_cons.mp hp with e | hp
      · rw [e]; exact Nat.le_add_right _ _
      · have := h1 p hp
        simp only [List.length_nil, List.length_cons] at *
        omega
    | false =>
      rw [spl_miss h]
      obtain ⟨h1, h2, h3⟩ := spl_bounds S r 0 (acc ++ [c])
      refine ⟨fun p hp => ?_, Nat.le_succ_of_le h2, h3⟩
      have := h1 p hp
      simp only [List.length_append, List.length_cons, List.length_nil] at *
      omega
  | c :: r, k + 1, acc => by
    have e : spl S (k + 1) acc (c :: r) = spl S k acc r := rfl
    rw [e]
    obtain ⟨h1, h2, h3⟩ := spl_bounds S r k acc
    refine ⟨fun p hp => ?_, Nat.le_succ_of_le h2, h3⟩
    have := h1 p hp
    simp only [List.length_cons] at *
    omega
theorem split_bounds {y : Str} (hy : tl y ≠ []) (hk : y.cps.all (· < 256) = true) (z : Str) : (∀ p ∈ Txt.split z y, p.length ≤ z.length) ∧ (Txt.split z y).length ≤ z.length + 1 ∧ Txt.split z y ≠ [] := by
  have e := split_spl z y hy (kind_ok hk)
  obtain ⟨h1, h2, h3⟩ := spl_bounds (tl y) (tl z) 0 []
  rw [← e] at h1 h2 h3
  refine ⟨fun p hp => ?_, ?_, fun q => h3 (by rw [q] <;> rfl)⟩
  · have := h1 (tl p) (List.mem_map.mpr ⟨p, hp, rfl⟩)
    rw [len_tl, len_tl]
    simpa using this
  · rw [List.length_map] at h2
    rw [len_tl]
    exact h2
/-! ### numbers -/
def digitC (c : Nat) : Bool := decide (c ∈ (("0123456789" : Str)).cps.toList)
def letterC (c : Nat) : Bool := decide (c ∈ (("abcdefghijklmnopqrstuvwxyz" : Str)).cps.toList)
theorem digitC_iff {c : Nat} : digitC c = true ↔ 48 ≤ c ∧ c ≤ 57 := by
  unfold digitC
  rw [decide_eq_true_eq, show (("0123456789" : Str)).cps.toList = [48, 49, 50, 51, 52, 53, 54, 55, 56, 57] by decide +kernel]
  simp only [List.mem_cons, List.not_mem_nil, or_false]
  omega
theorem letterC_iff {c : Nat} : letterC c = true ↔ 97 ≤ c ∧ c ≤ 122 := by
  unfold letterC
  rw [decide_eq_true_eq, show (("abcdefghijklmnopqrstuvwxyz" : Str)).cps.toList = [97, 98, 99, 100, 101, 102, 103, 104, 105, 106, 107, 108, 109, 110, 111, 112, 113, 114, 115, 116, 117, 118, 119, 120, 121, 122] by decide +kernel]
  simp only [List.mem_cons, List.not_mem_nil, or_false]
  omega
def valS (z : Str) : Int := (intText? z).getD 0
def numS (z : Str) : Option Int := if (1 ≤ z.length ∧ z.length ≤ 3) ∧ z.cps.toList.all digitC = true then (if z = "0" ∨ z.cps.toList[0]? ≠ some 48 then some (valS z) else none) else none
def optI : Option Int → PyData
  | some i => .int i
  | none => .none
theorem len_list (z : Str) : z.cps.toList.length = z.length := Array.length_toList
theorem val_of {z : Str} (h1 : 1 ≤ z.length) (h2 : z.length ≤ 3) (h : z.cps.toList.all digitC = true) : intText? z = some (valS z) ∧ 0 ≤ valS z := by
  have e := intText_digits (x := z) (fun c hc => digitC_iff.mp (List.all_eq_true.mp h c hc)) (fun q => by
    have := len_list z
    rw [q] at this
    simp at this
    omega) (by omega)
  unfold valS
  rw [e]
  exact ⟨rfl, Int.natCast_nonneg _⟩
theorem numS_nn {z : Str} {i : Int} (h : numS z = some i) : 0 ≤ i := by
  unfold numS at h
  split at h
  · rename_i c
    split at h
    · cases h
      exact (val_of c.1.1 c.1.2 c.2).2
    · cases h
  · cases h
/-! ### names -/
def nameB (z : Str) : Bool := (decide (1 ≤ z.length) && decide (z.length ≤ 8)) && z.cps.toList.all letterC
def namesB (xs : List Str) : Bool := xs.all nameB && ascS xs
/-! ### answers -/
def ansD : Option Bool → PyData
  | some b => .bool b
  | none => .none
def ansT : Option Bool → Str
  | some true => "yes"
  | some false => "no"
  | none => "?"
def ansS (w : Str) : Option (Option Bool) := if w = "yes" then some (some true) else if w = "no" then some (some false) else if w = "?" then some none else none
/-! ### lines -/
structure Row where
  x : Int
  y : Int
  u : Int
  ns : List Str
  a : Option Bool
def namesD (ns : List Str) : PyData := .tuple (ns.map .str)
def rowD (b : Bool) (r : Row) : PyData := if b then .tuple [.int r.x, .int r.y, .int r.u, namesD r.ns, ansD r.a] else .tuple [.int r.x, .int r.u, namesD r.ns]
/-- the beats: (low, high, save) -/
def spanS (b : Bool) (w : Str) : Option (Int × Int × Int) := match Txt.split w "-" with
  | [p, q] => match Txt.split p "/" with
    | [o] => match numS o, numS q with
      | some x, some u => some (x, x, u)
      | _, _ => none
    | [o, o2] => if b then match numS o, numS o2, numS q with
      | some x, some y, some u => if x = y then none else some (x, y, u)
      | _, _, _ => none
      else none
    | _ => none
  | _ => none
def lineO (b : Bool) (z : Str) : Option Row := match b, Txt.split z " " with
  | false, [w0, w1] => match spanS false w0 with
    | some (x, _, u) => if x < u ∧ namesB (Txt.split w1 ",") = true then some ⟨x, x, u, Txt.split w1 ",", none⟩ else none
    | none => none
  | true, [w0, w1, w2] => match ansS w2, spanS true w0 with
    | some a, some (x, y, u) => if (x ≤ y ∧ y < u) ∧ namesB (Txt.split w1 ",") = true then some ⟨x, y, u, Txt.split w1 ",", a⟩ else none
    | _, _ => none
  | _, _ => none
def lineD (b : Bool) (z : Str) : PyData := match lineO b z with
  | some r => rowD b r
  | none => .none
def badAt (b : Bool) : List Str → Nat → Int → Option Nat
  | [], _, _ => none
  | l :: ls, i, last => match lineO b l with
    | none => some i
    | some r => if r.u ≤ last then some i else badAt b ls (i + 1) r.u
def linesS (z : Str) : List Str := if z = "" then [] else Txt.split z "\n"
def sheetD (b : Bool) (z : Str) : PyData := match badAt b (linesS z) 0 0 with
  | some i => .int (i : Nat)
  | none => .tuple ((linesS z).map (lineD b))
def iB (b : Bool) : Int := if b then 1 else 0
/-! ### texts -/
def txI (i : Int) : Str := Str.ofString (toString i)
def openT (r : Row) : Str := if r.x = r.y then txI r.x else txI r.x ++ "/" ++ txI r.y
def rowT (b : Bool) (r : Row) : Str := if b then openT r ++ "-" ++ txI r.u ++ " " ++ Txt.join "," r.ns ++ " " ++ ansT r.a else txI r.x ++ "-" ++ txI r.u ++ " " ++ Txt.join "," r.ns
def sheetT (b : Bool) (rs : List Row) : Str := Txt.join "\n" (rs.map (rowT b))
end Sv
/-! part P0 -/
set_option Elab.async false
set_option linter.all false
set_option maxRecDepth 100000
set_option maxHeartbeats 4000000
namespace Sv
open PySem PySem.Spec PyProof.Rows L2
/-! ### the text by places -/
def top (i : Nat) : Stmt := PySem.Challenge.pw_saveclash_k80_whole_texts_and_what_is_no.main.body.getD i (.Pass ⟨0, 0, 0, 0⟩)
/-! ### what the module's names stand for -/
structure Tx (mg : Str → Option Value) : Prop where
  isinstance : mg "isinstance" = none
  int : mg "int" = none
  bool : mg "bool" = none
  str : mg "str" = none
  list : mg "list" = none
  tuple : mg "tuple" = none
  len : mg "len" = none
  all : mg "all" = none
  zip : mg "zip" = none
  enumerate : mg "enumerate" = none
  abs : mg "abs" = none
  max : mg "max" = none
  min : mg "min" = none
  sorted : mg "sorted" = none
  set : mg "set" = none
  range : mg "range" = none
  dict : mg "dict" = none
  valueError : mg "ValueError" = none
  letters : ∃ t, mg "LETTERS" = some (.str "abcdefghijklmnopqrstuvwxyz" t)
  longestP : ∃ t, mg "LONGEST_plain" = some (.int 8 t)
  triple : ∃ t, mg "TRIPLE" = some (.int 3 t)
  four : ∃ t, mg "FOUR" = some (.int 4 t)
  five : ∃ t, mg "FIVE" = some (.int 5 t)
  blank : ∃ t, mg "BLANK" = some (.str " " t)
  comma : ∃ t, mg "COMMA" = some (.str "," t)
  dash : ∃ t, mg "DASH" = some (.str "-" t)
  colon : ∃ t, mg "COLON" = some (.str ":" t)
  slash : ∃ t, mg "SLASH" = some (.str "/" t)
  feed : ∃ t, mg "FEED" = some (.str "\n" t)
  zero : ∃ t, mg "ZERO" = some (.str "0" t)
  digits : ∃ t, mg "DIGITS" = some (.str "0123456789" t)
  longestT : ∃ t, mg "LONGEST_texts" = some (.int 3 t)
  two : ∃ t, mg "TWO" = some (.int 2 t)
  three : ∃ t, mg "THREE" = some (.int 3 t)
end Sv
/-! part G1 -/
set_option Elab.async false
set_option linter.all false
set_option maxRecDepth 100000
set_option maxHeartbeats 4000000
namespace Sv
open PySem PySem.Spec PyProof.Rows L2
theorem lim_lt {n : Nat} (h : n ≤ 3000) : n < sizeLine := by rw [sizeLine_eq]; omega
theorem lim_le {n : Nat} (h : n ≤ 3000) : n ≤ sizeLine := Nat.le_of_lt (lim_lt h)
section
variable {P : Program} {w : World} {K : PySem.W.Frag} {mg : Str → Option Value} {base : Heap}
/-! ### number_in -/
abbrev N34 : List Str := ["word", "sign"]
theorem sc34 : FnScope N34 ["word"] (defScope (top 34)) := ⟨rfl, rfl, rfl, by decide +kernel, rfl, by decide +kernel, by decide +kernel⟩
abbrev F34 : List PyData → PyData → Prop := fun ds d => ∃ z : Str, ds = [.str z] ∧ z.length ≤ 3000 ∧ d = optI (numS z)
theorem atI0 {α : Type} {xs : List α} (h : xs ≠ []) : ∃ c, L2.atI xs 0 = some c ∧ xs[0]? = some c := by
  cases xs with
  | nil => exact absurd rfl h
  | cons c r =>
    refine ⟨c, ?_, rfl⟩
    unfold L2.atI
    rw [show ixN (c :: r).length 0 = some 0 from by unfold ixN; simp]
    rfl
theorem str1_zero {c : Nat} : (⟨#[c]⟩ : Str) = "0" ↔ c = 48 := by
  constructor
  · intro h
    have q := congrArg (fun z : Str => z.cps.toList) h
    rw [show (("0" : Str)).cps.toList = [48] by decide +kernel] at q
    exact (List.cons.inj q).1
  · intro h
    rw [h]
    decide +kernel
theorem num_none {z : Str} (h : ((!(decide ((1 : Int) ≤ (z.length : Nat)) && decide (((z.length : Nat) : Int) ≤ 3))) || !z.cps.toList.all digitC) = true) : numS z = none := by
  unfold numS
  rw [if_neg]
  rintro ⟨⟨a, b⟩, c⟩
  rw [c] at h
  simp at h
  omega
theorem num_range {z : Str} (h : ((!(decide ((1 : Int) ≤ (z.length : Nat)) && decide (((z.length : Nat) : Int) ≤ 3))) || !z.cps.toList.all digitC) = false) : (1 ≤ z.length ∧ z.length ≤ 3) ∧ z.cps.toList.all digitC = true := by
  rw [Bool.or_eq_false_iff, Bool.not_eq_false', Bool.not_eq_false', Bool.and_eq_true, decide_eq_true_eq, decide_eq_true_eq] at h
  exact ⟨by omega, h.2⟩
theorem ok_number_in {f : Addr} {fd : FuncData} (F : FnP K "number_in" (top 34) f fd) (T : Tx mg) : FnOk P w K mg base CX0 1 f fd ["word"] (spF F34) := by
  refine fn_ok F sc34 (fun ds d ⟨z, h, _⟩ => by rw [h]; rfl) fun cdv A outer s H E hr ds d hF => ?_
  obtain ⟨z, rfl, hz, rfl⟩ := hF
  have hz' := lim_lt hz
  have hz2 := lim_le hz
  show PSs _ _ (tS [some (.str z), none] _ _)
  refine ds_ifR (PW.pt (dw_or (dt_not (dt_chain op_le op_le od_le od_le de_int (de_lenS T.len hz2 (de_var 0 rfl)) (de_gint T.longestT)))
    (fun h => dw_or1 (dt_not (dt_val (de_allS (N0 := N34) (sc0 := defScope (top 34)) 1 (g := digitC) rfl sc34.nd T.all (by decide +kernel) hz' (de_var 0 rfl)
      (fun c _ s H C cl fp => de_cmp op_in_sign od_inC (de_var 1 rfl) (de_gstr T.digits) rfl))))))) (fun h => ds_ret de_non (by rw [num_none h]; rfl)) (fun h => ?_)
  obtain ⟨hl, hd⟩ := num_range h
  obtain ⟨c, c1, c2⟩ := atI0 (xs := z.cps.toList) (fun q => by
    have := len_list z
    rw [q] at this
    simp at this
    omega)
  obtain ⟨v1, v2⟩ := val_of hl.1 hl.2 hd
  refine ds_ret (de_if (PW.pt (dw_or (dt_cmp op_eq od_eqS (de_var 0 rfl) (de_gstr T.zero) (nomark _)) (fun h => dw_or1 (dt_cmp op_ne od_neS (de_ixS (c := c) hz2 c1 (de_var 0 rfl) de_int) (de_gstr T.zero) (nomark _)))))
      (fun h => de_intS T.int v1 (by omega) (de_var 0 rfl)) (fun h => de_non)) ?_
  have e0 : numS z = if (z = "0" ∨ z.cps.toList[0]? ≠ some 48) then some (valS z) else none := if_pos ⟨hl, hd⟩
  rw [e0, c2]
  by_cases e : z = "0"
  · rw [if_pos (Or.inl e)]
    simp [e, optI]
  · by_cases e2 : c = 48
    · rw [if_neg (show ¬ (z = "0" ∨ some c ≠ some 48) by simp [e, e2])]
      simp [e, e2, optI, str1_zero]
    · rw [if_pos (show z = "0" ∨ some c ≠ some 48 from Or.inr (by simp [e2]))]
      simp [e, e2, optI, str1_zero]
end
end Sv
/-! part D7 -/
set_option Elab.async false
set_option linter.all false
set_option maxRecDepth 100000
set_option maxHeartbeats 4000000
namespace Sv
open PySem PySem.Spec PyProof.Rows L2
/-- text * 0, text * 1 -/
theorem op_strI {X : Cx} : OpR X (binaryOp .Mult) (fun x y H Q => ∃ (z : Str) (p : Bool), x = .str z ∧ y = .int (if p then 1 else 0) ∧ Q (.str (if p then z else Str.empty)) H) := by
  intro pins s σ H x y v u Q I rx ry h
  obtain ⟨z, p, rfl, rfl, q⟩ := h
  obtain ⟨t, rfl⟩ := rx
  obtain ⟨t2, rfl⟩ := ry
  cases p with
  | false => exact PySem.P.mul_str_none (by decide) (by decide) ⟨.str Str.empty, H, I.tok _, ⟨_, rfl⟩, q⟩
  | true => exact PySem.P.mul_str (by decide) (fun _ z => by simp at z) (fun _ z => by simp at z) ⟨.str z, H, I, ⟨_, rfl⟩, q⟩
section
variable {X : Cx} {r : Rho} {d d1 d2 d3 : PyData} {a b c e : Expr} {es : List Expr} {ds es1 es2 : List PyData} {pos : Pos} {p q : Bool}
/-- a < b < c as a value -/
theorem de_chain {op op' : CmpOp} {r2 r3 : R2} (ho : OpR X (compareOp op) r2) (ho' : OpR X (compareOp op') r3) (h : OpD r2 d1 d2 (.bool p)) (h' : OpD r3 d2 d3 (.bool q)) (ha : PE X a (tD r d1)) (hb : PE X b (tD r d2)) (hc : PE X c (tD r d3))
    (hm : lastMarks [op, op'] [b, c] = false := by with_unfolding_all rfl) : PE X (.Compare a [op, op'] [b, c] pos) (tD r (.bool (p && q))) := (pe_chain ho ho' ha hb hc hm).wkS fun σ H Q ⟨B, D, E, k⟩ =>
  ⟨B, D, E, fun x H1 s1 rx => ⟨B, D.same s1, E.same s1, fun y H2 s2 ry => h B H2 x y _ ((D.same s1).same s2) (rx.same s2) ry fun v H3 s3 rv => by
    cases rv
    refine ⟨p, rfl, ?_⟩
    have s13 := s1.trans (s2.trans s3)
    cases p with
    | true => exact iteT ⟨B, D.same s13, E.same s13, fun z H4 s4 rz => h' B H4 y z _ ((D.same s13).same s4) ((ry.same s3).same s4) rz fun v H5 s5 rv => k v H5 (s13.trans (s4.trans s5)) rv⟩
    | false => exact iteF (k _ H3 s13 (.bl false))⟩⟩
theorem de_neg {i : Int} (h : PE X a (tD r (.int i))) : PE X (.UnaryOp .USub a pos) (tD r (.int (-i))) := (pe_un un_neg h).wkS fun σ H Q ⟨B, D, E, k⟩ =>
  ⟨B, D, E, fun v H1 s1 rv => by cases rv; exact ⟨i, rfl, k _ H1 s1 (.int _)⟩⟩
theorem da_star {sp : Pos} (he : PE X e (tD r d)) (hd : d = .tuple es1 ∨ d = .list es1) (hr : PA X es (tA r ds)) (hs : starEach (.Starred e sp :: es) X.env = (true, eval e X.env) :: starEach es X.env := by rfl) : PA X (.Starred e sp :: es) (tA r (es1 ++ ds)) :=
  (StX.pa_star he hr hs).wkS fun σ H Q ⟨B, D, E, k⟩ => ⟨B, D, E, fun v H1 s1 rv => by
    rcases hd with hd | hd
    · subst hd
      obtain ⟨p, xs, e, h, n, s⟩ := rv.tup_inv
      subst e
      exact ⟨p, xs, rfl, .inl (.inl h), B, D.same s1, E.same s1, fun ys H2 s2 rs => k _ H2 (s1.trans s2) ((s.same s2).append rs)⟩
    · subst hd
      obtain ⟨p, xs, e, h, n, s⟩ := rv.list_inv
      subst e
      exact ⟨p, xs, rfl, .inr (.inl h), B, D.same s1, E.same s1, fun ys H2 s2 rs => k _ H2 (s1.trans s2) ((s.same s2).append rs)⟩⟩
theorem od_catL (h : es1.length + es2.length ≤ sizeLine) : OpD rCat (.list es1) (.list es2) (.list (es1 ++ es2)) := by
  intro B H x y Q D rx ry k
  obtain ⟨p, xs, e, h1, n, s⟩ := rx.list_inv1
  subst e
  obtain ⟨p2, ys, e, h2, n2, s2⟩ := ry.list_inv1
  subst e
  refine ⟨p, p2, xs, ys, rfl, rfl, h1, h2, by rw [s.length, s2.length]; exact h, fun l hl => k _ _ (same_new hl) (Rp.lst_new hl D (s.append s2))⟩
theorem de_catL (h : es1.length + es2.length ≤ sizeLine) (ha : PE X a (tD r (.list es1))) (hb : PE X b (tD r (.list es2))) : PE X (.BinOp a .Add b pos) (tD r (.list (es1 ++ es2))) := de_bin op_cat (od_catL h) ha hb
theorem od_repL {n : Int} (h1 : -(2 ^ 63) ≤ n) (h2 : n < 2 ^ 63) (h : es1.length * n.toNat ≤ sizeLine) : OpD rRep (.list es1) (.int n) (.list (List.replicate n.toNat es1).flatten) := by
  intro B H x y Q D rx ry k
  obtain ⟨p, xs, e, h1', nn, s⟩ := rx.list_inv1
  subst e
  cases ry
  refine ⟨p, n, xs, rfl, rfl, h1', h1, h2, by rw [s.length]; exact h, fun l hl => k _ _ (same_new hl) (Rp.lst_new hl D ?_)⟩
  generalize n.toNat = m
  induction m with
  | zero => exact .nil
  | succ m ih =>
    rw [List.replicate_succ, List.flatten_cons, List.replicate_succ, List.flatten_cons]
    exact s.append ih
theorem de_repL {n : Int} (h1 : -(2 ^ 63) ≤ n) (h2 : n < 2 ^ 63) (h : es1.length * n.toNat ≤ sizeLine) (ha : PE X a (tD r (.list es1))) (hb : PE X b (tD r (.int n))) : PE X (.BinOp a .Mult b pos) (tD r (.list (List.replicate n.toNat es1).flatten)) := de_bin op_rep (od_repL h1 h2 h) ha hb
theorem de_repS {z : Str} (ha : PE X a (tD r (.str z))) (hb : PE X b (tD r (.int (if p then 1 else 0)))) : PE X (.BinOp a .Mult b pos) (tD r (.str (if p then z else Str.empty))) := de_bin op_strI (fun B H x y Q D rx ry k => by
  cases rx
  cases ry
  exact ⟨z, p, rfl, rfl, k _ H (Same.refl H) (.str _)⟩) ha hb
/-! more statements -/
variable {N : Rho → Prop} {R : PyData → Prop} {rest : List Stmt}
theorem tA_two {σ : L2.St} {H : Hp} {Q : List V → Hp → Prop} (z : ∃ B, Dom B H ∧ Er B H r σ ∧ ∀ x y H', Same H H' → Rp B H' x d1 → Rp B H' y d2 → Q [x, y] H') : tA r [d1, d2] σ H Q := by
  obtain ⟨B, D, E, k⟩ := z
  exact ⟨B, D, E, fun vs H1 s1 rs => by
    obtain ⟨x, y, e, rx, ry⟩ := rs.two_inv
    subst e
    exact k x y H1 s1 rx ry⟩
theorem ds_par (i j : Nat) {x y : Str} {px py pt pt2 : Pos} {kt k2 : Nat} (hc : X.calm = true) (ha : PA X [a, b] (tA r [d1, d2])) (hr : PSs X rest (tS ((r.set i (some d1)).set j (some d2)) N R)) (hN : X.N.Nodup) (hi : X.N[i]? = some x := by rfl) (hj : X.N[j]? = some y := by rfl) (hij : i ≠ j := by decide)
    (hx : X.env.scope.names.lookup x = some .local := by rfl) (hy : X.env.scope.names.lookup y = some .local := by rfl) (hw : swappedStores [.Tuple [.Name x px, .Name y py] kt pt] (.Tuple [a, b] k2 pt2) X.env = pure (some [x, y]) := by rfl)
    (hs : swapsWithSole [.Tuple [.Name x px, .Name y py] kt pt] (.Tuple [a, b] k2 pt2) pos.line X.env = pure false := by rfl) : PSs X (.Assign [.Tuple [.Name x px, .Name y py] kt pt] (.Tuple [a, b] k2 pt2) pos :: rest) (tS r N R) :=
  (pss_cons (ps_par hc hN hi hj hij hx hy ha hw hs) hr).wkS fun Dn σ H ⟨B, D, E, k, k2⟩ => tA_two ⟨B, D, E, fun u v H1 s1 ru rv =>
    ⟨u, v, rfl, B, D.same s1, ((E.same s1).set ru i).set rv j, fun r' σ' H' n s2 E' => k r' σ' H' n (s1.trans s2) E', fun d v H' q s2 rv => k2 d v H' q (s1.trans s2) rv⟩⟩
theorem ds_par3 (i j l : Nat) {x y z : Str} {px py pz pt pt2 : Pos} {kt k2 : Nat} (hc : X.calm = true) (ha : PA X [a, b, c] (tA r [d1, d2, d3])) (hr : PSs X rest (tS (((r.set i (some d1)).set j (some d2)).set l (some d3)) N R)) (hN : X.N.Nodup) (hi : X.N[i]? = some x := by rfl) (hj : X.N[j]? = some y := by rfl) (hl : X.N[l]? = some z := by rfl) (hij : i ≠ j := by decide) (hil : i ≠ l := by decide) (hjl : j ≠ l := by decide)
    (hx : X.env.scope.names.lookup x = some .local := by rfl) (hy : X.env.scope.names.lookup y = some .local := by rfl) (hz : X.env.scope.names.lookup z = some .local := by rfl) (hw : swappedStores [.Tuple [.Name x px, .Name y py, .Name z pz] kt pt] (.Tuple [a, b, c] k2 pt2) X.env = pure (some [x, y, z]) := by rfl)
    (hs : swapsWithSole [.Tuple [.Name x px, .Name y py, .Name z pz] kt pt] (.Tuple [a, b, c] k2 pt2) pos.line X.env = pure false := by rfl) : PSs X (.Assign [.Tuple [.Name x px, .Name y py, .Name z pz] kt pt] (.Tuple [a, b, c] k2 pt2) pos :: rest) (tS r N R) :=
  (pss_cons (ps_par3 hc hN hi hj hl hij hil hjl hx hy hz ha hw hs) hr).wkS fun Dn σ H ⟨B, D, E, k, k2⟩ => ⟨B, D, E, fun vs H1 s1 rs => by
    cases rs with
    | cons ru rs =>
      obtain ⟨v, w, e, rv, rw_⟩ := rs.two_inv
      subst e
      exact ⟨_, v, w, rfl, B, D.same s1, (((E.same s1).set ru i).set rv j).set rw_ l, fun r' σ' H' n s2 E' => k r' σ' H' n (s1.trans s2) E', fun d v H' q s2 rv => k2 d v H' q (s1.trans s2) rv⟩⟩
/-- a, b, .. = a tuple -/
def gNs : List Nat → TGs
  | [] => gNil
  | i :: is => gCons (gName i) (gNs is)
def setAll (r : Rho) : List Nat → List PyData → Rho
  | i :: is, d :: ds => setAll (r.set i (some d)) is ds
  | _, _ => r
theorem gNs_ok {B : List Addr} {H : Hp} {Q : L2.St → Hp → Prop} : ∀ {is : List Nat} {ds : List PyData} {vs : List V} {r : Rho} {σ : L2.St}, is.length = ds.length → Er B H r σ → Rps B H vs ds → (∀ σ2, Er B H (setAll r is ds) σ2 → Q σ2 H) → gNs is vs σ H Q
  | [], [], _, r, σ, _, E, .nil, k => ⟨rfl, k σ E⟩
  | i :: is, d :: ds, _, r, σ, hl, E, .cons rv rs, k => ⟨_, _, rfl, gNs_ok (is := is) (Nat.succ.inj hl) (E.set rv i) rs k⟩
theorem ds_unp (is : List Nat) {tgs : List Expr} {kt : Nat} {pt : Pos} (hg : PGs X tgs (gNs is)) (hc : X.calm = true) (he : PE X e (tD r (.tuple ds))) (hr : PSs X rest (tS (setAll r is ds) N R)) (hl : is.length = ds.length) (hn : (assignEach tgs X.env).length = ds.length := by rfl) (hst : (assignEach tgs X.env).findIdx? (·.1) = none := by rfl)
    (hs : swapsWithSole [.Tuple tgs kt pt] e pos.line X.env = pure false := by rfl) (hw : swappedStores [.Tuple tgs kt pt] e X.env = pure none := by rfl) (h1 : (assignEach [.Tuple tgs kt pt] X.env).map (·.2) = [assign (.Tuple tgs kt pt) X.env] := by rfl) : PSs X (.Assign [.Tuple tgs kt pt] e pos :: rest) (tS r N R) :=
  (pss_cons (ps_asg he (pg_tup hc hg hn hst) hs hw h1) hr).wkS fun Dn σ H ⟨B, D, E, k, k2⟩ => ⟨B, D, E, fun v H1 s1 rv => by
    obtain ⟨p, xs, e, h, n, s⟩ := rv.tup_inv
    subst e
    exact ⟨p, xs, rfl, .inl h, s.length, gNs_ok hl (E.same s1) s fun σ2 E2 => ⟨B, D.same s1, E2, fun r' σ' H' n s2 E' => k r' σ' H' n (s1.trans s2) E', fun d v H' q s2 rv => k2 d v H' q (s1.trans s2) rv⟩⟩⟩
theorem pgs_ns_cons {i : Nat} {x : Str} {is : List Nat} {px : Pos} {tgs : List Expr} (hN : X.N.Nodup) (h : PGs X tgs (gNs is)) (hi : X.N[i]? = some x := by rfl) (hx : Loc X.env.scope x := by first | exact Or.inl rfl | exact Or.inr rfl) (hf : X.fn x = true ∨ X.env.scope.names.lookup x = some .local := by first | exact .inl rfl | exact .inr rfl)
    (hs : (assignEach (.Name x px :: tgs) X.env).map (·.2) = assign (.Name x px) X.env :: (assignEach tgs X.env).map (·.2) := by rfl) : PGs X (.Name x px :: tgs) (gNs (i :: is)) := pgs_cons (pg_name hN hi hx hf) h hs
theorem pgs_ns_nil : PGs X [] (gNs []) := pgs_nil
end
end Sv
/-! part G2 -/
set_option Elab.async false
set_option linter.all false
set_option maxRecDepth 100000
set_option maxHeartbeats 4000000
namespace Sv
open PySem PySem.Spec PyProof.Rows L2
section
variable {P : Program} {w : World} {K : PySem.W.Frag} {mg : Str → Option Value} {base : Heap}
/-! ### is_number -/
abbrev N8 : List Str := ["thing", "bottom"]
theorem sc8 : FnScope N8 ["thing", "bottom"] (defScope (top 8)) := ⟨rfl, rfl, rfl, by decide +kernel, rfl, by decide +kernel, by decide +kernel⟩
abbrev F8 : List PyData → PyData → Prop := fun ds d => ∃ i j : Int, ds = [.int i, .int j] ∧ d = .bool (decide (j ≤ i))
theorem ok_is_number {f : Addr} {fd : FuncData} (F : FnP K "is_number" (top 8) f fd) (T : Tx mg) : FnOk P w K mg base CX0 1 f fd ["thing", "bottom"] (spF F8) := by
  refine fn_ok F sc8 (fun ds d ⟨i, j, h, _⟩ => by rw [h]; rfl) fun cdv A outer s H E hr ds d hF => ?_
  obtain ⟨i, j, rfl, rfl⟩ := hF
  show PSs _ _ (tS [some (.int i), some (.int j)] _ _)
  exact ds_ret (de_and (p := true) (de_isi (t := "int") T.isinstance T.int (by decide +kernel) rfl (de_var 0 rfl)) fun _ => de_and (p := true) (de_not (p := false) (de_isi (t := "bool") T.isinstance T.bool (by decide +kernel) rfl (de_var 0 rfl))) fun _ => de_one (de_cmp op_ge od_ge (de_var 0 rfl) (de_var 1 rfl) (nomark _))) rfl
/-! ### is_name -/
abbrev N9 : List Str := ["thing", "letter"]
theorem sc9 : FnScope N9 ["thing"] (defScope (top 9)) := ⟨rfl, rfl, rfl, by decide +kernel, rfl, by decide +kernel, by decide +kernel⟩
abbrev F9 : List PyData → PyData → Prop := fun ds d => ∃ z : Str, ds = [.str z] ∧ z.length ≤ 3000 ∧ d = .bool (nameB z)
theorem ok_is_name {f : Addr} {fd : FuncData} (F : FnP K "is_name" (top 9) f fd) (T : Tx mg) : FnOk P w K mg base CX0 1 f fd ["thing"] (spF F9) := by
  refine fn_ok F sc9 (fun ds d ⟨z, h, _⟩ => by rw [h]; rfl) fun cdv A outer s H E hr ds d hF => ?_
  obtain ⟨z, rfl, hz, rfl⟩ := hF
  have hz' := lim_lt hz
  have hz2 := lim_le hz
  show PSs _ _ (tS [some (.str z), none] _ _)
  refine ds_ret (de_and (p := true) (de_isi (t := "str") T.isinstance T.str (by decide +kernel) rfl (de_var 0 rfl)) fun _ => de_and (de_chain op_le op_le od_le od_le de_int (de_lenS T.len hz2 (de_var 0 rfl)) (de_gint T.longestP)) fun _ => de_one
    (de_allS (N0 := N9) (sc0 := defScope (top 9)) 1 (g := letterC) rfl sc9.nd T.all (by decide +kernel) hz' (de_var 0 rfl)
      (fun c _ s H C cl fp => de_cmp op_in_sign od_inC (de_var 1 rfl) (de_gstr T.letters) rfl))) ?_
  unfold nameB
  have e1 : decide ((1 : Int) ≤ (z.length : Nat)) = decide (1 ≤ z.length) := by
    rw [decide_eq_decide]; omega
  have e2 : decide (((z.length : Nat) : Int) ≤ 8) = decide (z.length ≤ 8) := by
    rw [decide_eq_decide]; omega
  rw [e1, e2]
  cases (decide (1 ≤ z.length) && decide (z.length ≤ 8)) <;> simp
/-! ### is_tuple -/
abbrev N10 : List Str := ["thing", "many"]
theorem sc10 : FnScope N10 ["thing", "many"] (defScope (top 10)) := ⟨rfl, rfl, rfl, by decide +kernel, rfl, by decide +kernel, by decide +kernel⟩
abbrev F10 : List PyData → PyData → Prop := fun ds d => ∃ (es : List PyData) (n : Int), ds = [.tuple es, .int n] ∧ d = .bool (decide (((es.length : Nat) : Int) = n))
theorem ok_is_tuple {f : Addr} {fd : FuncData} (F : FnP K "is_tuple" (top 10) f fd) (T : Tx mg) : FnOk P w K mg base CX0 1 f fd ["thing", "many"] (spF F10) := by
  refine fn_ok F sc10 (fun ds d ⟨i, j, h, _⟩ => by rw [h]; rfl) fun cdv A outer s H E hr ds d hF => ?_
  obtain ⟨es, n, rfl, rfl⟩ := hF
  show PSs _ _ (tS [some (.tuple es), some (.int n)] _ _)
  exact ds_ret (de_and (p := true) (de_isi (t := "tuple") T.isinstance T.tuple (by decide +kernel) rfl (de_var 0 rfl)) fun _ => de_one (de_cmp op_eq od_eqI (de_lenT T.len (de_var 0 rfl)) (de_var 1 rfl) (nomark _))) rfl
/-! ### rises -/
abbrev N11 : List Str := ["row", "one", "other"]
theorem sc11 : FnScope N11 ["row"] (defScope (top 11)) := ⟨rfl, rfl, rfl, by decide +kernel, rfl, by decide +kernel, by decide +kernel⟩
abbrev F11 : List PyData → PyData → Prop := fun ds d => ∃ (ns : List Str), ds = [namesD ns] ∧ ns.length ≤ 3001 ∧ d = .bool (ascS ns)
def strOfD : PyData → Str
  | .str z => z
  | _ => Str.empty
def ltPair : PyData → Bool
  | .tuple [.str x, .str y] => decide (LtS x y)
  | _ => false
theorem cut_tail (ds : List PyData) : cutD ds (some 1) none = ds.drop 1 := by
  unfold cutD
  cases ds with
  | nil => rfl
  | cons d ds =>
    have e1 : HT.sIx (d :: ds).length 0 (some 1) = 1 := by
      unfold HT.sIx
      simp
      try omega
    have e2 : HT.sIx (d :: ds).length (d :: ds).length none = (d :: ds).length := by
      unfold HT.sIx
      simp
    rw [e1, e2]
    simp
theorem zip_asc : ∀ (ns : List Str), (zipD (ns.map .str) ((ns.map .str).drop 1)).all ltPair = ascS ns
  | [] => rfl
  | [x] => rfl
  | x :: y :: r => by
    have ih := zip_asc (y :: r)
    show (ltPair (.tuple [.str x, .str y]) && (zipD ((y :: r).map .str) (r.map .str)).all ltPair) = _
    have e : ((y :: r).map PyData.str).drop 1 = r.map .str := rfl
    rw [e] at ih
    rw [ih]
    rfl
theorem zip_strs : ∀ (ns : List Str) (d1 d2 : PyData), .tuple [d1, d2] ∈ zipD (ns.map .str) ((ns.map .str).drop 1) → ∃ x y : Str, d1 = .str x ∧ d2 = .str y
  | [], d1, d2, h => by simp [zipD] at h
  | [x], d1, d2, h => by simp [zipD] at h
  | x :: y :: r, d1, d2, h => by
    have e : zipD ((x :: y :: r).map PyData.str) (((x :: y :: r).map PyData.str).drop 1) = .tuple [.str x, .str y] :: zipD ((y :: r).map .str) (((y :: r).map .str).drop 1) := rfl
    rw [e] at h
    rcases List.mem_cons.mp h with h | h
    · cases h
      exact ⟨x, y, rfl, rfl⟩
    · exact zip_strs (y :: r) d1 d2 h
theorem zip_pairs : ∀ (as bs : List PyData) (d : PyData), d ∈ zipD as bs → ∃ d1 d2, d = .tuple [d1, d2]
  | [], bs, d, h => by simp [zipD] at h
  | a :: as, [], d, h => by simp [zipD] at h
  | a :: as, b :: bs, d, h => by
    rcases List.mem_cons.mp (show d ∈ .tuple [a, b] :: zipD as bs from h) with h | h
    · exact ⟨a, b, h⟩
    · exact zip_pairs as bs d h
theorem ok_rises {f : Addr} {fd : FuncData} (F : FnP K "rises" (top 11) f fd) (T : Tx mg) : FnOk P w K mg base CX0 1 f fd ["row"] (spF F11) := by
  refine fn_ok F sc11 (fun ds d ⟨z, h, _⟩ => by rw [h]; rfl) fun cdv A outer s H E hr ds d hF => ?_
  obtain ⟨ns, rfl, hn, rfl⟩ := hF
  show PSs _ _ (tS [some (namesD ns), none, none] _ _)
  rw [← zip_asc]
  refine ds_ret (de_allM (f := fun d => .bool (ltPair d)) rfl T.all (fun d hd => rfl) (de_lcP (N0 := N11) (sc0 := defScope (top 11)) 1 2 (f := fun d => .bool (ltPair d)) rfl sc11.nd (by decide +kernel) ?_
    (di_zipT T.zip (de_var 0 rfl) (by rw [← cut_tail]; exact de_slT (de_var 0 rfl) (dp_some de_int) dp_none)) (zip_pairs _ _) (fun d1 d2 hd s H C cl fp => ?_))) rfl
  · rw [zipD_length]
    simp only [List.length_map, List.length_drop]
    rw [sizeLine_eq]
    omega
  · obtain ⟨x, y, rfl, rfl⟩ := zip_strs _ _ _ hd
    exact de_cmp op_lt_str od_ltS (de_var 1 rfl) (de_var 2 rfl) (nomark _)
end
end Sv
/-! part D8 -/
set_option Elab.async false
set_option linter.all false
set_option maxRecDepth 100000
set_option maxHeartbeats 4000000
namespace Sv
open PySem PySem.Spec PyProof.Rows L2
section
variable {X : Cx} {r : Rho} {d d2 : PyData} {e : Expr} {p p2 : Bool}
theorem de_of (h : PE X e (tD r d)) (q : d = d2) : PE X e (tD r d2) := q ▸ h
theorem dt_of (h : PT X e (tT r p)) (q : p = p2) : PT X e (tT r p2) := q ▸ h
/-- a comprehension that gives d -/
structure LcOk (X : Cx) (elt tg iter : Expr) (ifs : List Expr) (scope : Scope) (r : Rho) (d : PyData) : Prop where
  ex : ∃ (wi : TI) (g : TG) (tt : TT) (te : TE) (own : List (Str × Nat)), PI X tg iter wi ∧ BlkOk X.N X.env.scope scope own ∧ (∀ (s : Shared) (H : Hp) (C : Addr) (cl : List (Str × Addr)) (fp : List Addr), PG (X.blk s H scope (compEnvC scope cl C X.env) fp) tg g) ∧
    (∀ (s : Shared) (H : Hp) (C : Addr) (cl : List (Str × Addr)) (fp : List Addr), PTs (X.blk s H scope (compEnvC scope cl C X.env) fp) ifs tt) ∧ (∀ (s : Shared) (H : Hp) (C : Addr) (cl : List (Str × Addr)) (fp : List Addr), PE (X.blk s H scope (compEnvC scope cl C X.env) fp) elt te) ∧
    (∀ x, foldedSetIterable iter X.env x = pure x) ∧ ∀ σ H Q, tD r d σ H Q → tLc wi g tt te (own.map (·.2)) σ H Q
variable {elt tg iter t : Expr} {ifs : List Expr} {scope : Scope} {pos spos : Pos} {ds : List PyData} {N0 : List Str} {sc0 : Scope}
theorem LcOk.pe (h : LcOk X elt tg iter ifs scope r d) (hc : X.calm = true) (hN : X.N.Nodup) : PE X (.ListComp elt [⟨tg, iter, ifs, 0⟩] scope pos) (tD r d) := by
  obtain ⟨wi, g, tt, te, own, h1, h2, h3, h4, h5, h6, h7⟩ := h.ex
  exact (pe_lc hc hN h1 h2 h3 h4 h5 h6).wkS h7
theorem LcOk.of (h : LcOk X elt tg iter ifs scope r d) (q : d = d2) : LcOk X elt tg iter ifs scope r d2 := q ▸ h
/-- name = [..] -/
theorem ds_setLc (i : Nat) {N : Rho → Prop} {R : PyData → Prop} {rest : List Stmt} {y : Str} {py : Pos} (he : LcOk X elt tg iter ifs scope r d) (hr : PSs X rest (tS (r.set i (some d)) N R)) (hc : X.calm = true) (hN : X.N.Nodup) (hy : X.N[i]? = some y := by rfl) (hyl : X.env.scope.names.lookup y = some .local := by rfl)
    (hsw : swapsWith (.ListComp elt [⟨tg, iter, ifs, 0⟩] scope pos) (some (.Name y py)) spos.line X.env = pure true := by exact sw_true rfl rfl rfl (by decide +kernel)) : PSs X (.Assign [.Name y py] (.ListComp elt [⟨tg, iter, ifs, 0⟩] scope pos) spos :: rest) (tS r N R) := by
  obtain ⟨wi, g, tt, te, own, h1, h2, h3, h4, h5, h6, h7⟩ := he.ex
  exact (pss_cons (ps_setLc hc hN hy hyl hsw h1 h2 h3 h4 h5 h6) hr).wkS fun Dn σ H ⟨B, D, E, k, k2⟩ => by
    have z := h7 σ H (fun x H1 => gName i x σ H1 fun σ' H' => tS (r.set i (some d)) N R Dn σ' H') ⟨B, D, E, fun v H1 s1 rv => ⟨B, D.same s1, (E.same s1).set rv i, fun r' σ' H' n s2 E' => k r' σ' H' n (s1.trans s2) E', fun d v H' q s2 rv => k2 d v H' q (s1.trans s2) rv⟩⟩
    exact z
theorem lk_N (i : Nat) {x : Str} {px : Pos} {f : PyData → PyData} (hN : X.N.Nodup) (ok : blkC N0 sc0 scope [(x, i)] = true) (hz : ds.length < sizeLine) (hi : PI X (.Name x px) iter (tI r ds))
    (he : ∀ d ∈ ds, ∀ (s : Shared) (H : Hp) (C : Addr) (cl : List (Str × Addr)) (fp : List Addr), PE (X.blk s H scope (compEnvC scope cl C X.env) fp) elt (tD ((wipeD r [i]).set i (some d)) (f d)))
    (e1 : X.N = N0 := by rfl) (e2 : X.env.scope = sc0 := by rfl) (hx : scope.names.lookup x = some .local := by rfl) (hxi : N0[i]? = some x := by rfl) (hs : ∀ x, foldedSetIterable iter X.env x = pure x := by intro _; rfl) :
    LcOk X elt (.Name x px) iter [] scope r (.list (ds.map f)) := by
  have e : ds.filter (fun _ => true) = ds := List.filter_eq_self.mpr fun _ _ => rfl
  exact ⟨_, gName i, _, _, [(x, i)], hi, by rw [e1, e2]; exact blkOk_by ok, fun _ _ _ _ _ => pg_name (i := i) hN (by show X.N[i]? = some x; rw [e1]; exact hxi) (Or.inl (loc_blk hx)) (.inr (loc_blk hx)), fun _ _ _ _ _ => pts_nil,
    fun s H C cl fp => PE.ex (C := fun d => d ∈ ds ∧ (fun _ => true) d = true) fun d hd => he d hd.1 s H C cl fp, hs, fun σ H Q z => lc_D (p := fun _ => true) (u := fun d => (wipeD r [i]).set i (some d)) (ws := [i]) hz (fun d _ => gd_name) (fun j hj => hj) (fun d _ => tt_yes) σ H Q (by rw [e]; exact z)⟩
theorem lk_IfN (i : Nat) {x : Str} {px : Pos} {p : PyData → Bool} {f : PyData → PyData} (hN : X.N.Nodup) (ok : blkC N0 sc0 scope [(x, i)] = true) (hz : ds.length < sizeLine) (hi : PI X (.Name x px) iter (tI r ds))
    (ht : ∀ d ∈ ds, ∀ (s : Shared) (H : Hp) (C : Addr) (cl : List (Str × Addr)) (fp : List Addr), PT (X.blk s H scope (compEnvC scope cl C X.env) fp) t (tT ((wipeD r [i]).set i (some d)) (p d)))
    (he : ∀ d ∈ ds, p d = true → ∀ (s : Shared) (H : Hp) (C : Addr) (cl : List (Str × Addr)) (fp : List Addr), PE (X.blk s H scope (compEnvC scope cl C X.env) fp) elt (tD ((wipeD r [i]).set i (some d)) (f d)))
    (e1 : X.N = N0 := by rfl) (e2 : X.env.scope = sc0 := by rfl) (hx : scope.names.lookup x = some .local := by rfl) (hxi : N0[i]? = some x := by rfl) (hs : ∀ x, foldedSetIterable iter X.env x = pure x := by intro _; rfl) :
    LcOk X elt (.Name x px) iter [t] scope r (.list ((ds.filter p).map f)) :=
  ⟨_, gName i, _, _, [(x, i)], hi, by rw [e1, e2]; exact blkOk_by ok, fun _ _ _ _ _ => pg_name (i := i) hN (by show X.N[i]? = some x; rw [e1]; exact hxi) (Or.inl (loc_blk hx)) (.inr (loc_blk hx)), fun s H C cl fp => pts_one (PT.ex (C := fun d => d ∈ ds) fun d hd => ht d hd s H C cl fp),
    fun s H C cl fp => PE.ex (C := fun d => d ∈ ds ∧ p d = true) fun d hd => he d hd.1 hd.2 s H C cl fp, hs, fun σ H Q z => lc_D (u := fun d => (wipeD r [i]).set i (some d)) (ws := [i]) hz (fun d _ => gd_name) (fun j hj => hj) (fun d hd σ H Q q => ⟨d, hd, q⟩) σ H Q z⟩
/-- [elt for x, y in iter]: every item is a pair -/
theorem lk_P (i j : Nat) {x y : Str} {px py pt : Pos} {kt : Nat} {f : PyData → PyData} (hc : X.calm = true) (hN : X.N.Nodup) (ok : blkC N0 sc0 scope [(x, i), (y, j)] = true) (hz : ds.length < sizeLine) (hi : PI X (.Tuple [.Name x px, .Name y py] kt pt) iter (tI r ds)) (hp : ∀ d ∈ ds, ∃ d1 d2, d = .tuple [d1, d2])
    (he : ∀ d1 d2, .tuple [d1, d2] ∈ ds → ∀ (s : Shared) (H : Hp) (C : Addr) (cl : List (Str × Addr)) (fp : List Addr), PE (X.blk s H scope (compEnvC scope cl C X.env) fp) elt (tD (((wipeD r [i, j]).set i (some d1)).set j (some d2)) (f (.tuple [d1, d2]))))
    (e1 : X.N = N0 := by rfl) (e2 : X.env.scope = sc0 := by rfl) (hx : scope.names.lookup x = some .local := by rfl) (hy : scope.names.lookup y = some .local := by rfl) (hxi : N0[i]? = some x := by rfl) (hyj : N0[j]? = some y := by rfl) (hs : ∀ x, foldedSetIterable iter X.env x = pure x := by intro _; rfl) :
    LcOk X elt (.Tuple [.Name x px, .Name y py] kt pt) iter [] scope r (.list (ds.map f)) := by
  have e : ds.filter (fun _ => true) = ds := List.filter_eq_self.mpr fun _ _ => rfl
  let u : PyData → Rho := fun d => match d with
    | .tuple [d1, d2] => ((wipeD r [i, j]).set i (some d1)).set j (some d2)
    | _ => r
  refine ⟨_, gTup X.K 2 (gCons (gName i) (gCons (gName j) gNil)), _, _, [(x, i), (y, j)], hi, by rw [e1, e2]; exact blkOk_by ok,
    fun _ _ _ _ _ => pg_tup hc (pgs_cons (pg_name (i := i) hN (by show X.N[i]? = some x; rw [e1]; exact hxi) (Or.inl (loc_blk hx)) (.inr (loc_blk hx))) (pgs_cons (pg_name (i := j) hN (by show X.N[j]? = some y; rw [e1]; exact hyj) (Or.inl (loc_blk hy)) (.inr (loc_blk hy))) pgs_nil)) rfl rfl,
    fun _ _ _ _ _ => pts_nil, fun s H C cl fp => PE.ex (t := fun d => tD (u d) (f d)) (C := fun d => d ∈ ds ∧ (fun _ => true) d = true) fun d hd => ?_, hs,
    fun σ H Q z => lc_D (p := fun _ => true) (u := u) (ws := [i, j]) hz (fun d hd => ?_) (fun j hj => hj) (fun d _ => tt_yes) σ H Q (by rw [e]; exact z)⟩
  · obtain ⟨d1, d2, e⟩ := hp d hd.1
    subst e
    exact he d1 d2 hd.1 s H C cl fp
  · obtain ⟨d1, d2, e⟩ := hp d hd
    subst e
    exact gd_pair
end
end Sv
/-! part G3 -/
set_option Elab.async false
set_option linter.all false
set_option maxRecDepth 100000
set_option maxHeartbeats 4000000
namespace Sv
open PySem PySem.Spec PyProof.Rows L2
abbrev Hs (P : Program) (w : World) (K : PySem.W.Frag) (mg : Str → Option Value) (base : Heap) (k : Nat) (x : Str) (ps : List Str) (F : List PyData → PyData → Prop) : Prop := Has P w K mg base CX0 k x ps (spF F)
theorem PSs.re {X : Cx} {b : List Stmt} {t u : TS} (h : PSs X b t) (e : t = u) : PSs X b u := e ▸ h
theorem sz_ok {n : Nat} (h : Nat.ble n 100000 = true) : n ≤ sizeLine := by
  rw [sizeLine_eq]
  exact Nat.le_trans (Nat.le_of_ble_eq_true h) (by decide)
theorem isBoolAns {a : Option Bool} (h : isN (ansD a) = false) : kitB (tyN (ansD a)) "bool" = some true := by
  cases a with
  | none => exact nomatch h
  | some b => rfl
section
variable {P : Program} {w : World} {K : PySem.W.Frag} {mg : Str → Option Value} {base : Heap}
def okNs (ns : List Str) : Prop := ns ≠ [] ∧ ns.length ≤ 3001 ∧ ∀ z ∈ ns, z.length ≤ 3000
theorem all_str (ns : List Str) (g : Str → Bool) : ((ns.map PyData.str).all fun d => g (strOfD d)) = ns.all g := by
  rw [List.all_map]
  rfl
/-! ### is_session -/
abbrev N15 : List Str := ["thing", "names", "name"]
theorem sc15 : FnScope N15 ["thing"] (defScope (top 15)) := ⟨rfl, rfl, rfl, by decide +kernel, rfl, by decide +kernel, by decide +kernel⟩
abbrev F15 : List PyData → PyData → Prop := fun ds d => ∃ (x u : Int) (ns : List Str), ds = [.tuple [.int x, .int u, namesD ns]] ∧ okNs ns ∧ d = .bool ((decide (0 ≤ x) && decide (x + 1 ≤ u)) && namesB ns)
theorem ok_is_session {f : Addr} {fd : FuncData} (F : FnP K "is_session" (top 15) f fd) (T : Tx mg) (G8 : Hs P w K mg base 1 "is_number" ["thing", "bottom"] F8) (G9 : Hs P w K mg base 1 "is_name" ["thing"] F9)
    (G10 : Hs P w K mg base 1 "is_tuple" ["thing", "many"] F10) (G11 : Hs P w K mg base 1 "rises" ["row"] F11) : FnOk P w K mg base CX0 2 f fd ["thing"] (spF F15) := by
  refine fn_ok F sc15 (fun ds d ⟨x, u, ns, h, _⟩ => by rw [h]; rfl) fun cdv A outer s H E hr ds d hF => ?_
  obtain ⟨x, u, ns, rfl, ⟨hne, hl, hz⟩, rfl⟩ := hF
  show PSs _ _ (tS [some (.tuple [.int x, .int u, namesD ns]), none, none] _ _)
  refine ds_ifR (PW.pt (dw_or (dt_not (dt_val (de_call G10 ⟨_, 3, rfl, rfl⟩ hr (da_cons (de_var 0 rfl) (da_cons (de_gint T.triple) da_nil)))))
    (fun _ => dw_or (dt_not (dt_val (de_call G8 ⟨x, 0, rfl, rfl⟩ hr (da_cons (de_ixT (d := .int x) rfl (de_var 0 rfl) de_int) (da_cons de_int da_nil)))))
    (fun _ => dw_or1 (dt_not (dt_val (de_call G8 ⟨u, x + 1, rfl, rfl⟩ hr (da_cons (de_ixT (d := .int u) rfl (de_var 0 rfl) de_int) (da_cons (de_bin op_add od_add (de_ixT (d := .int x) rfl (de_var 0 rfl) de_int) de_int) da_nil)))))))))
    (fun h => ds_ret de_bl ?_) (fun h => ds_set 1 (de_ixT (d := namesD ns) rfl (de_var 0 rfl) de_int) (ds_ret (de_and (p := true) (de_isi (t := "tuple") T.isinstance T.tuple (by decide +kernel) rfl (de_var 1 rfl)) fun _ => de_and (de_cmp op_gt od_gt (de_lenT T.len (de_var 1 rfl)) de_int (nomark _)) fun _ =>
      de_and (de_allM (f := fun d => .bool (nameB (strOfD d))) (g := fun d => nameB (strOfD d)) rfl T.all (fun d hd => rfl) (de_lcN (N0 := N15) (sc0 := defScope (top 15)) 2 (f := fun d => .bool (nameB (strOfD d))) rfl sc15.nd (by decide +kernel) (by rw [List.length_map, sizeLine_eq]; omega) (di_tup (de_var 1 rfl))
        (fun d hd s H C cl fp => ?_))) fun _ => de_one (de_call G11 ⟨ns, rfl, hl, rfl⟩ hr (da_cons (de_var 1 rfl) da_nil))) ?_) sc15.nd)
  · have e : (decide (0 ≤ x) && decide (x + 1 ≤ u)) = false := by
      simp only [List.length_cons, List.length_nil] at h
      cases h1 : decide (0 ≤ x) <;> cases h2 : decide (x + 1 ≤ u) <;> rw [h1, h2] at h <;> first | rfl | (exfalso; simp at h)
    rw [e]
    rfl
  · obtain ⟨z, hm, e⟩ := List.mem_map.mp hd
    subst e
    exact de_call G9 ⟨z, rfl, hz z hm, rfl⟩ hr (da_cons (de_var 2 rfl) da_nil)
  · have e : (decide (0 ≤ x) && decide (x + 1 ≤ u)) = true := by
      simp only [List.length_cons, List.length_nil] at h
      cases h1 : decide (0 ≤ x) <;> cases h2 : decide (x + 1 ≤ u) <;> rw [h1, h2] at h <;> first | rfl | (exfalso; simp at h)
    rw [e, all_str]
    have e2 : decide ((0 : Int) < (((ns.map PyData.str).length : Nat) : Int)) = true := by
      rw [decide_eq_true_eq, List.length_map]
      have := List.length_pos_iff.mpr hne
      omega
    rw [e2]
    unfold namesB
    cases ns.all nameB <;> rfl
/-! ### is_draft -/
abbrev N16 : List Str := ["thing"]
theorem sc16 : FnScope N16 ["thing"] (defScope (top 16)) := ⟨rfl, rfl, rfl, by decide +kernel, rfl, by decide +kernel, by decide +kernel⟩
abbrev F16 : List PyData → PyData → Prop := fun ds d => ∃ (x y u : Int) (ns : List Str), ds = [.tuple [.int x, .int y, .int u, namesD ns]] ∧ okNs ns ∧ d = .bool ((decide (0 ≤ x) && decide (x ≤ y)) && ((decide (0 ≤ y) && decide (y + 1 ≤ u)) && namesB ns))
theorem ok_is_draft {f : Addr} {fd : FuncData} (F : FnP K "is_draft" (top 16) f fd) (T : Tx mg) (G8 : Hs P w K mg base 2 "is_number" ["thing", "bottom"] F8) (G10 : Hs P w K mg base 2 "is_tuple" ["thing", "many"] F10)
    (G15 : Hs P w K mg base 2 "is_session" ["thing"] F15) : FnOk P w K mg base CX0 3 f fd ["thing"] (spF F16) := by
  refine fn_ok F sc16 (fun ds d ⟨x, y, u, ns, h, _⟩ => by rw [h]; rfl) fun cdv A outer s H E hr ds d hF => ?_
  obtain ⟨x, y, u, ns, rfl, ok, rfl⟩ := hF
  show PSs _ _ (tS [some (.tuple [.int x, .int y, .int u, namesD ns])] _ _)
  refine ds_ifR (PW.pt (dw_or (dt_not (dt_val (de_call G10 ⟨_, 4, rfl, rfl⟩ hr (da_cons (de_var 0 rfl) (da_cons (de_gint T.four) da_nil)))))
    (fun _ => dw_or (dt_not (dt_val (de_call G8 ⟨x, 0, rfl, rfl⟩ hr (da_cons (de_ixT (d := .int x) rfl (de_var 0 rfl) de_int) (da_cons de_int da_nil)))))
    (fun _ => dw_or1 (dt_not (dt_val (de_call G8 ⟨y, x, rfl, rfl⟩ hr (da_cons (de_ixT (d := .int y) rfl (de_var 0 rfl) de_int) (da_cons (de_ixT (d := .int x) rfl (de_var 0 rfl) de_int) da_nil)))))))))
    (fun h => ds_ret de_bl ?_) (fun h => ds_ret (de_call G15 ⟨y, u, ns, rfl, ok, rfl⟩ hr (da_cons (de_tup (da_cons (de_ixT (d := .int y) rfl (de_var 0 rfl) de_int) (da_star (es1 := [.int u, namesD ns]) (de_slT (de_var 0 rfl) (dp_some de_int) dp_none) (Or.inl rfl) da_nil)) (sz_ok rfl)) da_nil)) ?_)
  · have e : (decide (0 ≤ x) && decide (x ≤ y)) = false := by
      simp only [List.length_cons, List.length_nil] at h
      cases h1 : decide (0 ≤ x) <;> cases h2 : decide (x ≤ y) <;> rw [h1, h2] at h <;> first | rfl | (exfalso; simp at h)
    rw [e]
    rfl
  · have e : (decide (0 ≤ x) && decide (x ≤ y)) = true := by
      simp only [List.length_cons, List.length_nil] at h
      cases h1 : decide (0 ≤ x) <;> cases h2 : decide (x ≤ y) <;> rw [h1, h2] at h <;> first | rfl | (exfalso; simp at h)
    rw [e]
    rfl
/-! ### is_log_row -/
abbrev N19 : List Str := ["thing"]
theorem sc19 : FnScope N19 ["thing"] (defScope (top 19)) := ⟨rfl, rfl, rfl, by decide +kernel, rfl, by decide +kernel, by decide +kernel⟩
abbrev F19 : List PyData → PyData → Prop := fun ds d => ∃ (x y u : Int) (ns : List Str) (a : Option Bool), ds = [.tuple [.int x, .int y, .int u, namesD ns, ansD a]] ∧ okNs ns ∧ d = .bool ((decide (0 ≤ x) && decide (x ≤ y)) && ((decide (0 ≤ y) && decide (y + 1 ≤ u)) && namesB ns))
theorem ok_is_log_row {f : Addr} {fd : FuncData} (F : FnP K "is_log_row" (top 19) f fd) (T : Tx mg) (G10 : Hs P w K mg base 3 "is_tuple" ["thing", "many"] F10)
    (G16 : Hs P w K mg base 3 "is_draft" ["thing"] F16) : FnOk P w K mg base CX0 4 f fd ["thing"] (spF F19) := by
  refine fn_ok F sc19 (fun ds d ⟨x, y, u, ns, a, h, _⟩ => by rw [h]; rfl) fun cdv A outer s H E hr ds d hF => ?_
  obtain ⟨x, y, u, ns, a, rfl, ok, rfl⟩ := hF
  show PSs _ _ (tS [some (.tuple [.int x, .int y, .int u, namesD ns, ansD a])] _ _)
  generalize hq : ((decide (0 ≤ x) && decide (x ≤ y)) && ((decide (0 ≤ y) && decide (y + 1 ≤ u)) && namesB ns)) = q
  refine ds_ifR (PW.pt (dw_or (dt_not (dt_val (de_call G10 ⟨_, 5, rfl, rfl⟩ hr (da_cons (de_var 0 rfl) (da_cons (de_gint T.five) da_nil)))))
    (fun _ => dw_or1 (dt_not (dt_val (de_call (d := .bool q) G16 ⟨x, y, u, ns, rfl, ok, by rw [hq]⟩ hr (da_cons (de_of (de_slT (ds := [.int x, .int y, .int u, namesD ns, ansD a]) (de_var 0 rfl) dp_none (dp_some (de_neg de_int))) rfl) da_nil)))))))
    (fun h => ds_ret de_bl ?_) (fun h => ds_ret (de_or (de_cmp op_isN od_isN (de_ixT (d := ansD a) rfl (de_var 0 rfl) (de_neg de_int)) de_non rfl) fun h2 => de_one (de_isi (t := "bool") (k := true) T.isinstance T.bool (by decide +kernel) (isBoolAns h2) (de_ixT (d := ansD a) rfl (de_var 0 rfl) (de_neg de_int)))) ?_)
  · simp only [List.length_cons, List.length_nil] at h
    cases q with
    | false => rfl
    | true => exfalso; simp at h
  · simp only [List.length_cons, List.length_nil] at h
    cases q with
    | true => cases a <;> rfl
    | false => exfalso; simp at h
end
end Sv
/-! part G4 -/
set_option Elab.async false
set_option linter.all false
set_option maxRecDepth 100000
set_option maxHeartbeats 4000000
namespace Sv
open PySem PySem.Spec PyProof.Rows L2
section
variable {P : Program} {w : World} {K : PySem.W.Frag} {mg : Str → Option Value} {base : Heap}
theorem len2_lim {z : Str} (h : z.length ≤ 3000) : z.length + 2 ≤ sizeLine := by rw [sizeLine_eq]; omega
theorem cutS_ok {y : Str} (hy : y.cps.toList ≠ [] := by decide +kernel) (hk : y.cps.all (· < 256) = true := by decide +kernel) {z : Str} (h : z.length ≤ 3000) : (∀ p ∈ Txt.split z y, p.length ≤ 3000) ∧ (Txt.split z y).length ≤ 3001 ∧ Txt.split z y ≠ [] := by
  obtain ⟨h1, h2, h3⟩ := split_bounds hy hk z
  exact ⟨fun p hp => Nat.le_trans (h1 p hp) h, by omega, h3⟩
/-! ### beats_in -/
abbrev N41 : List Str := ["word", "many", "parts", "openings", "found", "own"]
theorem sc41 : FnScope N41 ["word", "many"] (defScope (top 41)) := ⟨rfl, rfl, rfl, by decide +kernel, rfl, by decide +kernel, by decide +kernel⟩
def beatsD (b : Bool) : Option (Int × Int × Int) → PyData
  | none => .none
  | some (x, y, u) => if b then .tuple [.int x, .int y, .int u] else .tuple [.int x, .int u]
abbrev F41 : List PyData → PyData → Prop := fun ds d => ∃ (z : Str) (b : Bool), ds = [.str z, .int (1 + iB b)] ∧ z.length ≤ 3000 ∧ d = beatsD b (spanS b z)
def fo (o : Str) : PyData := optI (numS o)
def eqO : List Str → Bool
  | [o, o2] => PyData.eqv (fo o) (fo o2)
  | _ => false
def badO (b : Bool) (os : List Str) (q : Str) : Bool := decide (1 + iB b < ((os.length : Nat) : Int)) || (((os ++ [q]).map fo).any (fun y => PyData.eqv y .none) || (decide (((os.length : Nat) : Int) = 2) && eqO os))
theorem eqv_fo {o : Str} : PyData.eqv (fo o) .none = (numS o).isNone := by
  unfold fo
  cases numS o <;> rfl
theorem span_bad {b : Bool} {z p q : Str} (h1 : Txt.split z "-" = [p, q]) (h : badO b (Txt.split p "/") q = true) : spanS b z = none := by
  unfold spanS
  rw [h1]
  dsimp only
  unfold badO at h
  revert h
  generalize Txt.split p "/" = os
  intro h
  rcases os with _ | ⟨o, _ | ⟨o2, _ | ⟨o3, r⟩⟩⟩
  · rfl
  · dsimp only
    simp only [List.cons_append, List.nil_append, List.map_cons, List.map_nil, List.any_cons, List.any_nil, eqv_fo, eqO, List.length_cons, List.length_nil] at h
    cases e1 : numS o <;> cases e2 : numS q <;> first | rfl | (exfalso; rw [e1, e2] at h; cases b <;> simp [iB] at h)
  · dsimp only
    cases b with
    | false => rfl
    | true =>
      simp only [List.cons_append, List.nil_append, List.map_cons, List.map_nil, List.any_cons, List.any_nil, eqv_fo, eqO, List.length_cons, List.length_nil] at h
      rw [if_pos rfl]
      cases e1 : numS o with
      | none => rfl
      | some x => cases e2 : numS o2 with
        | none => rfl
        | some y => cases e3 : numS q with
          | none => rfl
          | some u =>
            dsimp only
            rw [if_pos]
            simpa [e1, e2, e3, iB, fo, optI, PyData.eqv] using h
  · rfl
theorem span_good {b : Bool} {z p q : Str} (h1 : Txt.split z "-" = [p, q]) (h2 : Txt.split p "/" ≠ []) (h : badO b (Txt.split p "/") q = false) :
    (∃ o x u, Txt.split p "/" = [o] ∧ fo o = .int x ∧ fo q = .int u ∧ spanS b z = some (x, x, u)) ∨ (b = true ∧ ∃ o o2 x y u, Txt.split p "/" = [o, o2] ∧ fo o = .int x ∧ fo o2 = .int y ∧ fo q = .int u ∧ spanS b z = some (x, y, u)) := by
  unfold spanS
  rw [h1]
  dsimp only
  unfold badO at h
  revert h
  generalize Txt.split p "/" = os at h2
  intro h
  rcases os with _ | ⟨o, _ | ⟨o2, _ | ⟨o3, r⟩⟩⟩
  · exact absurd rfl h2
  · left
    dsimp only
    simp only [List.cons_append, List.nil_append, List.map_cons, List.map_nil, List.any_cons, List.any_nil, eqv_fo, eqO, List.length_cons, List.length_nil] at h
    unfold fo
    cases e1 : numS o with
    | none => exfalso; simp [e1] at h
    | some x => cases e2 : numS q with
      | none => exfalso; simp [e1, e2] at h
      | some u => exact ⟨o, x, u, rfl, by rw [e1] <;> rfl, rfl, rfl⟩
  · right
    dsimp only
    simp only [List.cons_append, List.nil_append, List.map_cons, List.map_nil, List.any_cons, List.any_nil, eqv_fo, eqO, List.length_cons, List.length_nil] at h
    cases b with
    | false => exfalso; simp [iB] at h
    | true =>
      refine ⟨rfl, ?_⟩
      rw [if_pos rfl]
      unfold fo at h ⊢
      cases e1 : numS o with
      | none => exfalso; simp [e1] at h
      | some x => cases e2 : numS o2 with
        | none => exfalso; simp [e1, e2] at h
        | some y => cases e3 : numS q with
          | none => exfalso; simp [e1, e2, e3] at h
          | some u =>
            refine ⟨o, o2, x, y, u, rfl, by rw [e1] <;> rfl, by rw [e2] <;> rfl, rfl, ?_⟩
            dsimp only
            rw [if_neg]
            simpa [e1, e2, e3, iB, fo, optI, PyData.eqv] using h
  · exfalso
    simp only [List.length_cons] at h
    cases b <;> simp [iB] at h <;> omega
theorem de_eq01 {X : Cx} {r : Rho} {a1 a2 : Expr} {p1 : Pos} {os : List Str} {q : Str} (h2 : (((os ++ [q]).map fo).any fun y => PyData.eqv y .none) = false) (h3 : decide (((os.length : Nat) : Int) = 2) = true)
    (h : ∀ o o2 : Str, os = [o, o2] → PE X a1 (tD r (fo o)) ∧ PE X a2 (tD r (fo o2))) : PT X (.Compare a1 [.Eq] [a2] p1) (tT r (eqO os)) := by
  rw [decide_eq_true_eq] at h3
  rcases os with _ | ⟨o, _ | ⟨o2, _ | ⟨o3, r⟩⟩⟩ <;> simp only [List.length_cons, List.length_nil] at h3 <;> first | omega | skip
  obtain ⟨h4, h5⟩ := h o o2 rfl
  refine dt_cmp op_eq (od_eqF ?_) h4 h5 (nomark _)
  unfold fo
  cases e1 : numS o with
  | none => exfalso; simp [eqv_fo, e1] at h2
  | some x => cases e2 : numS o2 with
    | none => exfalso; simp [eqv_fo, e1, e2] at h2
    | some y => rfl
theorem flat_fo (os : List Str) : (os.map fo).all flatD = true := by
  rw [List.all_map]
  refine List.all_eq_true.mpr fun o _ => ?_
  show flatD (fo o) = true
  unfold fo
  cases numS o <;> rfl
theorem cut1 (d : PyData) (ds : List PyData) : cutD (d :: ds) (some 1) none = ds := cut_tail (d :: ds)
theorem span_no2 {b : Bool} {z : Str} (h : (Txt.split z "-").length ≠ 2) : spanS b z = none := by
  unfold spanS
  revert h
  generalize Txt.split z "-" = os
  intro h
  rcases os with _ | ⟨p, _ | ⟨q, _ | ⟨q3, r⟩⟩⟩ <;> first | rfl | exact absurd rfl h
theorem de_beats {X : Cx} {r : Rho} {e2 : Expr} {d0 : PyData} {rest all : List PyData} {n : Int} {k : Nat} {p1 p2 p3 pos : Pos} {x y : Expr} (hl : (List.replicate n.toNat [d0]).flatten ++ rest = all) (hn : 0 ≤ n ∧ n ≤ 3) (hs : all.length ≤ 10)
    (h1 : PE X x (tD r (.list [d0]))) (h2 : PE X y (tD r (.int n))) (h3 : PE X e2 (tD r (.list rest)))
    (s1 : starEach [.Starred (.BinOp x .Mult y p1) p2, .Starred e2 p3] X.env = (true, eval (.BinOp x .Mult y p1) X.env) :: starEach [.Starred e2 p3] X.env := by rfl) (s2 : starEach [.Starred e2 p3] X.env = (true, eval e2 X.env) :: starEach [] X.env := by rfl) :
    PE X (.Tuple [.Starred (.BinOp x .Mult y p1) p2, .Starred e2 p3] k pos) (tD r (.tuple all)) := by
  subst hl
  refine de_of (de_tup (da_star (de_repL (es1 := [d0]) (n := n) (by omega) (by omega) ?_ h1 h2) (Or.inr rfl) (da_star h3 (Or.inr rfl) da_nil s2) s1) ?_) (by rw [List.append_nil])
  · rw [sizeLine_eq]
    simp
    omega
  · rw [sizeLine_eq, List.append_nil]
    omega
theorem ok_beats_in {f : Addr} {fd : FuncData} (F : FnP K "beats_in" (top 41) f fd) (T : Tx mg) (G34 : Hs P w K mg base 1 "number_in" ["word"] F34) : FnOk P w K mg base CX0 2 f fd ["word", "many"] (spF F41) := by
  refine fn_ok F sc41 (fun ds d ⟨z, b, h, _⟩ => by rw [h]; rfl) fun cdv A outer s H E hr ds d hF => ?_
  obtain ⟨z, b, rfl, hz, rfl⟩ := hF
  obtain ⟨c1, c2, c3⟩ := cutS_ok (y := "-") (by decide +kernel) (by decide +kernel) hz
  show PSs _ _ (tS [some (.str z), some (.int (1 + iB b)), none, none, none, none] _ _)
  refine ds_set 2 (de_split rfl (len2_lim hz) (de_var 0 rfl) (de_gstr T.dash)) ?_ sc41.nd
  by_cases hp : (Txt.split z "-").length = 2
  · obtain ⟨p, q, e1⟩ : ∃ p q, Txt.split z "-" = [p, q] := by
      revert hp
      generalize Txt.split z "-" = os
      intro hp
      rcases os with _ | ⟨p, _ | ⟨q, _ | ⟨q3, r⟩⟩⟩ <;> simp at hp
      exact ⟨p, q, rfl⟩
    rw [e1]
    have lp : p.length ≤ 3000 := c1 p (by rw [e1]; simp)
    have lq : q.length ≤ 3000 := c1 q (by rw [e1]; simp)
    obtain ⟨f1, f2, f3⟩ := cutS_ok (y := "/") (by decide +kernel) (by decide +kernel) lp
    refine ds_ifR (dt_cmp op_ne od_neI (de_lenL T.len (de_var 2 rfl)) (de_gint T.two) (nomark _)) (fun h => by simp at h) fun _ => ?_
    refine ds_set 3 (de_split (z := p) rfl (len2_lim lp) (de_ixL (d := .str p) rfl (de_var 2 rfl) de_int) (de_gstr T.slash)) ?_ sc41.nd
    refine ds_setLc (d := .list ((Txt.split p "/" ++ [q]).map fo)) 4 (LcOk.of (lk_N (N0 := N41) (sc0 := defScope (top 41)) 5 (f := fun d => fo (strOfD d)) sc41.nd (by decide +kernel) ?_ (di_list (de_lst (da_star (de_var 3 rfl) (Or.inr rfl) (da_cons (de_ixL (d := .str q) rfl (de_var 2 rfl) de_int) da_nil)) ?_)) (fun d hd s H C cl fp => ?_)) ?_) ?_ rfl sc41.nd
    · simp only [List.length_append, List.length_map, List.length_cons, List.length_nil]
      rw [sizeLine_eq]
      omega
    · simp only [List.length_append, List.length_map, List.length_cons, List.length_nil]
      rw [sizeLine_eq]
      omega
    · have hd2 : ∃ o : Str, d = .str o ∧ o.length ≤ 3000 := by
        rcases List.mem_append.mp hd with hd | hd
        · obtain ⟨o, ho, e⟩ := List.mem_map.mp hd
          exact ⟨o, e.symm, f1 o ho⟩
        · rw [List.mem_singleton] at hd
          exact ⟨q, hd, lq⟩
      obtain ⟨o, rfl, lo⟩ := hd2
      exact de_call G34 ⟨o, rfl, lo, rfl⟩ hr (da_cons (de_var 5 rfl) da_nil)
    · rw [List.map_append, List.map_append, List.map_map]
      rfl
    show PSs _ _ (tS [some (.str z), some (.int (1 + iB b)), some (.list [.str p, .str q]), some (.list ((Txt.split p "/").map .str)), some (.list ((Txt.split p "/" ++ [q]).map fo)), none] _ _)
    refine ds_ifR (p := badO b (Txt.split p "/") q) (PW.pt (dw_or (p := decide (1 + iB b < (((Txt.split p "/").length : Nat) : Int))) (dt_of (dt_cmp op_gt od_gt (de_lenL T.len (de_var 3 rfl)) (de_var 1 rfl) (nomark _)) (by rw [List.length_map]))
      (fun h1 => dw_or (dt_cmp op_in_seq (od_inL rfl (flat_fo _)) de_non (de_var 4 rfl) rfl)
      (fun h2 => dw_or1 (PW.pt (dw_and (p := decide ((((Txt.split p "/").length : Nat) : Int) = 2)) (dt_of (dt_cmp op_eq od_eqI (de_lenL T.len (de_var 3 rfl)) (de_gint T.two) (nomark _)) (by rw [List.length_map])) (fun h3 => dw_and1 ((de_eq01 h2 h3 fun o o2 e => ⟨by rw [e]; exact de_ixL rfl (de_var 4 rfl) de_int, by rw [e]; exact de_ixL rfl (de_var 4 rfl) de_int⟩)))))))))
      (fun h => ds_ret de_non (by rw [span_bad e1 h]; rfl)) (fun h => ?_)
    rcases span_good e1 f3 h with ⟨o, x, u, g1, g2, g3, g4⟩ | ⟨rfl, o, o2, x, y, u, g1, g2, g3, g4, g5⟩
    · rw [g1, g4]
      have e5 : ([o] ++ [q]).map fo = [.int x, .int u] := by simp [g2, g3]
      rw [e5]
      refine ds_ret (de_beats (n := 1 + iB b) (d0 := .int x) (rest := [.int u]) (all := if b then [.int x, .int x, .int u] else [.int x, .int u]) (by cases b <;> rfl) (by cases b <;> exact ⟨by decide, by decide⟩) (by cases b <;> exact Nat.le_of_ble_eq_true rfl) (de_lst (da_cons (de_ixL rfl (de_var 4 rfl) de_int) da_nil) (sz_ok rfl)) (de_of (de_bin op_sub od_sub (de_bin op_add od_add (de_var 1 rfl) de_int) (de_lenL T.len (de_var 3 rfl))) (by cases b <;> rfl))
        (de_of (de_slL (ds := [.int x, .int u]) (de_var 4 rfl) (dp_some de_int) dp_none) rfl)) (by cases b <;> rfl)
    · rw [g1, g5]
      have e5 : ([o, o2] ++ [q]).map fo = [.int x, .int y, .int u] := by simp [g2, g3, g4]
      rw [e5]
      exact ds_ret (de_beats (n := 1) (d0 := .int x) (rest := [.int y, .int u]) rfl ⟨by decide, by decide⟩ (by simp) (de_lst (da_cons (de_ixL rfl (de_var 4 rfl) de_int) da_nil) (sz_ok rfl)) (de_of (de_bin op_sub od_sub (de_bin op_add od_add (de_var 1 rfl) de_int) (de_lenL T.len (de_var 3 rfl))) rfl)
        (de_of (de_slL (ds := [.int x, .int y, .int u]) (de_var 4 rfl) (dp_some de_int) dp_none) rfl)) rfl
  · refine ds_ifR (dt_cmp op_ne od_neI (de_lenL T.len (de_var 2 rfl)) (de_gint T.two) (nomark _)) (fun h => ds_ret de_non (by rw [span_no2 hp]; rfl)) fun h => absurd h ?_
    rw [List.length_map, Bool.not_eq_false', decide_eq_true_eq]
    omega
end
end Sv
/-! part D9 -/
set_option Elab.async false
set_option linter.all false
set_option maxRecDepth 100000
set_option maxHeartbeats 4000000
namespace Sv
open PySem PySem.Spec PyProof.Rows L2
def ansV : Option Bool → V
  | some b => .bl b
  | none => .non
theorem ansV_rp {B : List Addr} {H : Hp} (a : Option Bool) : Rp B H (ansV a) (ansD a) := by
  cases a with
  | none => exact .non
  | some b => exact .bl b
/-- the dict of the words -/
structure Wd (K : PySem.W.Frag) (w : World) (mg : Str → Option Value) : Prop where
  ex : ∃ (d : Addr) (es : Array DictEntry) (n : Nat), mg "WORDS" = some (.ref d) ∧ KDict K w d es n ∧ ∀ z : Str, ∃ r, PySem.W.nsIn K d z = some r ∧ RelO ((ansS z).map ansV) r
theorem relO_isSome {o : Option V} {r : Option Value} (h : RelO o r) : r.isSome = o.isSome := by
  cases o <;> cases r <;> first | rfl | exact h.elim
section
variable {X : Cx} {r : Rho} {e : Expr} {pos pp : Pos} {z : Str}
theorem dt_inWords (W : Wd X.K X.w X.mg) (h : PE X e (tD r (.str z))) (hg : Gl X "WORDS" := by rfl) : PT X (.Compare e [.In] [.Name "WORDS" pp] pos) (tT r (ansS z).isSome) := by
  obtain ⟨d, es, n, m, D, look⟩ := W.ex
  refine (pt_cmpR (op_in_kd D) h (pe_glob (v := .ref d) hg m rfl) rfl).wkS fun σ H Q ⟨B, DD, E, k⟩ => ⟨B, DD, E, fun v H1 s1 rv => ?_⟩
  cases rv
  obtain ⟨u, h1, h2⟩ := look z
  exact ⟨z, u, rfl, rfl, h1, (ansS z).isSome, by rw [relO_isSome h2]; simp, k H1 s1⟩
theorem de_words {a : Option Bool} (W : Wd X.K X.w X.mg) (ha : ansS z = some a) (h : PE X e (tD r (.str z))) (hg : Gl X "WORDS" := by rfl) (hs : PlainIx e := by exact fun _ _ => rfl) : PE X (.Subscript (.Name "WORDS" pp) e pos) (tD r (ansD a)) := by
  obtain ⟨d, es, n, m, D, look⟩ := W.ex
  refine (pe_ix ix_kdict (pe_glob (v := .ref d) hg m rfl) h hs).wkS fun σ H Q ⟨B, DD, E, k⟩ => ⟨B, DD, E, fun v H1 s1 rv => ?_⟩
  cases rv
  obtain ⟨u, h1, h2⟩ := look z
  rw [ha] at h2
  cases u with
  | none => exact h2.elim
  | some u => exact ⟨d, z, ansV a, rfl, rfl, ⟨es, n, u, D.at_, D.lit, h1, h2⟩, k _ H1 s1 (ansV_rp a)⟩
end
end Sv
/-! part G5 -/
set_option Elab.async false
set_option linter.all false
set_option maxRecDepth 100000
set_option maxHeartbeats 4000000
namespace Sv
open PySem PySem.Spec PyProof.Rows L2
theorem span_nn {b : Bool} {z : Str} {x y u : Int} (h : spanS b z = some (x, y, u)) : 0 ≤ x ∧ 0 ≤ y ∧ (b = false → y = x) := by
  unfold spanS at h
  generalize Txt.split z "-" = ps at h
  rcases ps with _ | ⟨p, _ | ⟨q, _ | ⟨q3, r⟩⟩⟩
  · cases h
  · cases h
  rotate_left
  · cases h
  dsimp only at h
  generalize Txt.split p "/" = os at h
  rcases os with _ | ⟨o, _ | ⟨o2, _ | ⟨o3, r⟩⟩⟩
  · cases h
  rotate_left 2
  · cases h
  all_goals dsimp only at h
  · cases e1 : numS o with
    | none => rw [e1] at h; exact nomatch h
    | some x1 => cases e2 : numS q with
      | none => rw [e1, e2] at h; exact nomatch h
      | some u1 =>
        rw [e1, e2] at h
        cases h
        exact ⟨numS_nn e1, numS_nn e1, fun _ => rfl⟩
  · cases b with
    | false => exact nomatch h
    | true =>
      rw [if_pos rfl] at h
      cases e1 : numS o with
      | none => rw [e1] at h; exact nomatch h
      | some x1 => cases e2 : numS o2 with
        | none => rw [e1, e2] at h; exact nomatch h
        | some y1 => cases e3 : numS q with
          | none => rw [e1, e2, e3] at h; exact nomatch h
          | some u1 =>
            rw [e1, e2, e3] at h
            dsimp only at h
            split at h
            · exact nomatch h
            · cases h
              exact ⟨numS_nn e1, numS_nn e2, fun z => nomatch z⟩
theorem lineD_no0 {z : Str} (h : (Txt.split z " ").length ≠ 2) : lineD false z = .none := by
  unfold lineD lineO
  revert h
  generalize Txt.split z " " = os
  intro h
  rcases os with _ | ⟨p, _ | ⟨q, _ | ⟨q3, r⟩⟩⟩ <;> first | rfl | exact absurd rfl h
theorem lineD_no1 {z : Str} (h : (Txt.split z " ").length ≠ 3) : lineD true z = .none := by
  unfold lineD lineO
  revert h
  generalize Txt.split z " " = os
  intro h
  rcases os with _ | ⟨p, _ | ⟨q, _ | ⟨q3, _ | ⟨q4, r⟩⟩⟩⟩ <;> first | rfl | exact absurd rfl h
def outD (b : Bool) : Option Row → PyData
  | some r => rowD b r
  | none => .none
theorem fin_ite {p b : Bool} {C : Prop} [Decidable C] {r : Row} (h : p = true ↔ C) : (if p = true then rowD b r else .none) = outD b (if C then some r else none) := by
  by_cases c : C
  · rw [if_pos c, if_pos (h.mpr c)]
    rfl
  · rw [if_neg c, if_neg (fun z => c (h.mp z))]
    rfl
section
variable {P : Program} {w : World} {K : PySem.W.Frag} {mg : Str → Option Value} {base : Heap}
theorem okNs_split {z : Str} (h : z.length ≤ 3000) : okNs (Txt.split z ",") := by
  obtain ⟨h1, h2, h3⟩ := cutS_ok (y := ",") (by decide +kernel) (by decide +kernel) h
  exact ⟨h3, h2, h1⟩
/-! ### session_in -/
abbrev N42 : List Str := ["line", "words", "beats", "found"]
theorem sc42 : FnScope N42 ["line"] (defScope (top 42)) := ⟨rfl, rfl, rfl, by decide +kernel, rfl, by decide +kernel, by decide +kernel⟩
abbrev F42 : List PyData → PyData → Prop := fun ds d => ∃ (z : Str), ds = [.str z] ∧ z.length ≤ 3000 ∧ d = lineD false z
theorem ok_session_in {f : Addr} {fd : FuncData} (F : FnP K "session_in" (top 42) f fd) (T : Tx mg) (G41 : Hs P w K mg base 2 "beats_in" ["word", "many"] F41) (G15 : Hs P w K mg base 2 "is_session" ["thing"] F15) : FnOk P w K mg base CX0 3 f fd ["line"] (spF F42) := by
  refine fn_ok F sc42 (fun ds d ⟨z, h, _⟩ => by rw [h]; rfl) fun cdv A outer s H E hr ds d hF => ?_
  obtain ⟨z, rfl, hz, rfl⟩ := hF
  obtain ⟨c1, c2, c3⟩ := cutS_ok (y := " ") (by decide +kernel) (by decide +kernel) hz
  show PSs _ _ (tS [some (.str z), none, none, none] _ _)
  refine ds_set 1 (de_split rfl (len2_lim hz) (de_var 0 rfl) (de_gstr T.blank)) ?_ sc42.nd
  by_cases hp : (Txt.split z " ").length = 2
  · obtain ⟨w0, w1, e1⟩ : ∃ p q, Txt.split z " " = [p, q] := by
      revert hp
      generalize Txt.split z " " = os
      intro hp
      rcases os with _ | ⟨p, _ | ⟨q, _ | ⟨q3, r⟩⟩⟩ <;> simp at hp
      exact ⟨p, q, rfl⟩
    have l0 : w0.length ≤ 3000 := c1 w0 (by rw [e1]; simp)
    have l1 : w1.length ≤ 3000 := c1 w1 (by rw [e1]; simp)
    have eD : lineD false z = outD false (lineO false z) := rfl
    unfold lineO at eD
    rw [e1] at eD ⊢
    dsimp only at eD
    refine ds_set (d := beatsD false (spanS false w0)) 2 (de_of (de_if (dt_cmp op_eq od_eqI (de_lenL T.len (de_var 1 rfl)) (de_gint T.two) (nomark _)) (fun h => de_call G41 ⟨w0, false, rfl, l0, rfl⟩ hr (da_cons (de_ixL (d := .str w0) rfl (de_var 1 rfl) de_int) (da_cons de_int da_nil))) (fun h => de_non)) rfl) ?_ sc42.nd
    cases es : spanS false w0 with
    | none =>
      rw [es] at eD
      refine ds_ifR (dt_cmp op_isN od_isN (de_var 2 rfl) de_non rfl) (fun h => ds_ret de_non eD.symm) (fun h => nomatch h)
    | some t =>
      obtain ⟨x, y, u⟩ := t
      rw [es] at eD
      dsimp only at eD
      obtain ⟨n1, n2, n3⟩ := span_nn es
      refine ds_ifR (dt_cmp op_isN od_isN (de_var 2 rfl) de_non rfl) (fun h => nomatch h) (fun h => ?_)
      refine ds_set (d := .tuple [.int x, .int u, namesD (Txt.split w1 ",")]) 3 (de_tup (da_star (es1 := [.int x, .int u]) (de_var 2 rfl) (Or.inl rfl) (da_cons (de_tupL T.tuple (de_split rfl (len2_lim l1) (de_ixL (d := .str w1) rfl (de_var 1 rfl) de_int) (de_gstr T.comma))) da_nil)) (sz_ok rfl)) ?_ sc42.nd
      refine ds_ret (de_if (dt_val (de_call G15 ⟨x, u, _, rfl, okNs_split l1, rfl⟩ hr (da_cons (de_var 3 rfl) da_nil))) (fun h => de_var 3 rfl) (fun h => de_non)) ?_
      rw [eD]
      exact fin_ite (b := false) (r := ⟨x, x, u, Txt.split w1 ",", none⟩) (by
        rw [Bool.and_eq_true, Bool.and_eq_true, decide_eq_true_eq, decide_eq_true_eq]
        exact ⟨fun q => ⟨by have := q.1.2; omega, q.2⟩, fun q => ⟨⟨n1, by have := q.1; omega⟩, q.2⟩⟩)
  · rw [lineD_no0 hp]
    refine ds_set (d := .none) 2 (de_of (de_if (p := false) (dt_of (dt_cmp op_eq od_eqI (de_lenL T.len (de_var 1 rfl)) (de_gint T.two) (nomark _)) (by rw [List.length_map, decide_eq_false_iff_not]; omega)) (d1 := .none) (fun h => nomatch h) (fun h => de_non)) rfl) ?_ sc42.nd
    exact ds_ifR (dt_cmp op_isN od_isN (de_var 2 rfl) de_non rfl) (fun h => ds_ret de_non rfl) (fun h => nomatch h)
/-! ### row_in -/
abbrev N43 : List Str := ["line", "words", "beats", "found"]
theorem sc43 : FnScope N43 ["line"] (defScope (top 43)) := ⟨rfl, rfl, rfl, by decide +kernel, rfl, by decide +kernel, by decide +kernel⟩
abbrev F43 : List PyData → PyData → Prop := fun ds d => ∃ (z : Str), ds = [.str z] ∧ z.length ≤ 3000 ∧ d = lineD true z
theorem ok_row_in {f : Addr} {fd : FuncData} (F : FnP K "row_in" (top 43) f fd) (T : Tx mg) (W : Wd K w mg) (G41 : Hs P w K mg base 4 "beats_in" ["word", "many"] F41) (G19 : Hs P w K mg base 4 "is_log_row" ["thing"] F19) : FnOk P w K mg base CX0 5 f fd ["line"] (spF F43) := by
  refine fn_ok F sc43 (fun ds d ⟨z, h, _⟩ => by rw [h]; rfl) fun cdv A outer s H E hr ds d hF => ?_
  obtain ⟨z, rfl, hz, rfl⟩ := hF
  obtain ⟨c1, c2, c3⟩ := cutS_ok (y := " ") (by decide +kernel) (by decide +kernel) hz
  show PSs _ _ (tS [some (.str z), none, none, none] _ _)
  refine ds_set 1 (de_split rfl (len2_lim hz) (de_var 0 rfl) (de_gstr T.blank)) ?_ sc43.nd
  by_cases hp : (Txt.split z " ").length = 3
  · obtain ⟨w0, w1, w2, e1⟩ : ∃ p q r, Txt.split z " " = [p, q, r] := by
      revert hp
      generalize Txt.split z " " = os
      intro hp
      rcases os with _ | ⟨p, _ | ⟨q, _ | ⟨q3, _ | ⟨q4, r⟩⟩⟩⟩ <;> simp at hp
      exact ⟨p, q, q3, rfl⟩
    have l0 : w0.length ≤ 3000 := c1 w0 (by rw [e1]; simp)
    have l1 : w1.length ≤ 3000 := c1 w1 (by rw [e1]; simp)
    have eD : lineD true z = outD true (lineO true z) := rfl
    unfold lineO at eD
    rw [e1] at eD ⊢
    dsimp only at eD
    refine ds_set (d := if (ansS w2).isSome then beatsD true (spanS true w0) else .none) 2 (de_of (de_if (PW.pt (dw_and (dt_cmp op_eq od_eqI (de_lenL T.len (de_var 1 rfl)) (de_gint T.three) (nomark _)) (fun h => dw_and1 (dt_inWords W (de_ixL (d := .str w2) rfl (de_var 1 rfl) de_int))))) (fun h => de_call G41 ⟨w0, true, rfl, l0, rfl⟩ hr (da_cons (de_ixL (d := .str w0) rfl (de_var 1 rfl) de_int) (da_cons (de_gint T.two) da_nil))) (fun h => de_non)) rfl) ?_ sc43.nd
    cases ea : ansS w2 with
    | none =>
      rw [ea] at eD
      refine ds_ifR (dt_cmp op_isN od_isN (de_var 2 rfl) de_non rfl) (fun h => ds_ret de_non eD.symm) (fun h => nomatch h)
    | some a =>
      cases es : spanS true w0 with
      | none =>
        rw [ea, es] at eD
        refine ds_ifR (dt_cmp op_isN od_isN (de_var 2 rfl) de_non rfl) (fun h => ds_ret de_non eD.symm) (fun h => nomatch h)
      | some t =>
        obtain ⟨x, y, u⟩ := t
        rw [ea, es] at eD
        dsimp only at eD
        obtain ⟨n1, n2, n3⟩ := span_nn es
        refine ds_ifR (dt_cmp op_isN od_isN (de_var 2 rfl) de_non rfl) (fun h => nomatch h) (fun h => ?_)
        refine ds_set (d := .tuple [.int x, .int y, .int u, namesD (Txt.split w1 ","), ansD a]) 3 (de_tup (da_star (es1 := [.int x, .int y, .int u]) (de_var 2 rfl) (Or.inl rfl) (da_cons (de_tupL T.tuple (de_split rfl (len2_lim l1) (de_ixL (d := .str w1) rfl (de_var 1 rfl) de_int) (de_gstr T.comma))) (da_cons (de_words W ea (de_ixL (d := .str w2) rfl (de_var 1 rfl) de_int)) da_nil))) (sz_ok rfl)) ?_ sc43.nd
        refine ds_ret (de_if (dt_val (de_call G19 ⟨x, y, u, _, a, rfl, okNs_split l1, rfl⟩ hr (da_cons (de_var 3 rfl) da_nil))) (fun h => de_var 3 rfl) (fun h => de_non)) ?_
        rw [eD]
        exact fin_ite (b := true) (r := ⟨x, y, u, Txt.split w1 ",", a⟩) (by
          simp only [Bool.and_eq_true, decide_eq_true_eq]
          exact ⟨fun q => ⟨⟨q.1.2, by have := q.2.1.2; omega⟩, q.2.2⟩, fun q => ⟨⟨n1, q.1.1⟩, ⟨n2, by have := q.1.2; omega⟩, q.2⟩⟩)
  · rw [lineD_no1 hp]
    refine ds_set (d := .none) 2 (de_of (de_if (p := false) (dt_of (PW.pt (dw_and (p := false) (q := false) (dt_of (dt_cmp op_eq od_eqI (de_lenL T.len (de_var 1 rfl)) (de_gint T.three) (nomark _)) (by rw [List.length_map, decide_eq_false_iff_not]; omega)) (fun h => nomatch h))) rfl) (d1 := .none) (fun h => nomatch h) (fun h => de_non)) rfl) ?_ sc43.nd
    exact ds_ifR (dt_cmp op_isN od_isN (de_var 2 rfl) de_non rfl) (fun h => ds_ret de_non rfl) (fun h => nomatch h)
/-! ### lines_in -/
abbrev N44 : List Str := ["text"]
theorem sc44 : FnScope N44 ["text"] (defScope (top 44)) := ⟨rfl, rfl, rfl, by decide +kernel, rfl, by decide +kernel, by decide +kernel⟩
abbrev F44 : List PyData → PyData → Prop := fun ds d => ∃ (z : Str), ds = [.str z] ∧ z.length ≤ 3000 ∧ d = .list ((linesS z).map .str)
theorem ok_lines_in {f : Addr} {fd : FuncData} (F : FnP K "lines_in" (top 44) f fd) (T : Tx mg) : FnOk P w K mg base CX0 1 f fd ["text"] (spF F44) := by
  refine fn_ok F sc44 (fun ds d ⟨z, h, _⟩ => by rw [h]; rfl) fun cdv A outer s H E hr ds d hF => ?_
  obtain ⟨z, rfl, hz, rfl⟩ := hF
  show PSs _ _ (tS [some (.str z)] _ _)
  refine ds_ret (de_if (dt_cmp op_ne od_neS (de_var 0 rfl) de_str (nomark _)) (fun h => de_split rfl (len2_lim hz) (de_var 0 rfl) (de_gstr T.feed)) (fun h => de_lst da_nil (Nat.zero_le _))) ?_
  unfold linesS
  by_cases h : z = ""
  · rw [if_pos h, decide_eq_true h]
    rfl
  · rw [if_neg h, decide_eq_false h]
    rfl
end
end Sv
/-! part D10 -/
set_option Elab.async false
set_option linter.all false
set_option maxRecDepth 100000
set_option maxHeartbeats 4000000
namespace Sv
open PySem PySem.Spec PyProof.Rows L2
theorem Er.drop {B : List Addr} {H : Hp} : ∀ {r : Rho} {s : L2.St} (i : Nat), Er B H r s → Er B H (r.set i none) s
  | _, _, _, .nil => .nil
  | _, _, 0, .no t => .no t
  | _, _, 0, .so _ t => .no t
  | _, _, i + 1, .no t => .no (Er.drop i t)
  | _, _, i + 1, .so q t => .so q (Er.drop i t)
section
variable {X : Cx} {r : Rho} {d d1 d2 d3 : PyData} {a b c e : Expr} {es : List Expr} {ds : List PyData} {pos : Pos} {p q : Bool} {N : Rho → Prop} {R : PyData → Prop} {rest : List Stmt}
def tbX (n : Nat) (v z : Nat → Rho) (bad : Option Nat) (Wd : Hp → Prop) : TS := fun Dn σ H => ∃ i, (i < n ∧ ∀ j, bad = some j → i ≤ j) ∧ ((∀ j, bad = some j → i < j) → tS (v i) (fun r' => r' = z i) (fun _ => False) Dn σ H) ∧ (bad = some i → ∃ B, Dom B H ∧ Er B H (v i) σ ∧ Wd H)
/-- a for whose turn i stands at u i, with the target set at v i, behind the body at z i; bad: a turn that leaves by an exception, under Wd -/
theorem dx_for {tg iter : Expr} {body : List Stmt} {g : TG} {ws : List Nat} (u v z : Nat → Rho) (bad : Option Nat) (Wd : Hp → Prop) (hW : ∀ H H', Same H H' → Wd H → Wd H') (hp : PassesOwn (model X.prog X.w) X.A X.env X.xe) (hc : X.calm = true) (hi : PI X tg iter (tI (u 0) ds)) (hgp : PG X tg g)
    (hbd : ∀ j, bad = some j → j < ds.length) (hg : ∀ i d, ds[i]? = some d → GD g (u i) d (v i) ws) (hk : ∀ i B H σ, Er B H (z i) σ → Er B H (u (i + 1)) σ)
    (hgood : ∀ i, i < ds.length → (∀ j, bad = some j → i < j) → PSs X body (tS (v i) (fun r' => r' = z i) (fun _ => False))) (hbad : ∀ i, bad = some i → PSs X body (fun Dn σ H => ∃ B, Dom B H ∧ Er B H (v i) σ ∧ Wd H))
    (hr : bad = none → PSs X rest (tS (u ds.length) N R)) (hs : ∀ x, foldedSetIterable iter X.env x = pure x := by intro _; rfl) :
    PSs X (.For tg iter body [] pos :: rest) (fun Dn σ H => tS (u 0) N R Dn σ H ∧ (∀ i, bad = some i → Wd H)) := by
  have hbe : PSs X body (tbX ds.length v z bad Wd) := by
    refine PSs.ex (C := fun i => i < ds.length ∧ ∀ j, bad = some j → i ≤ j) fun i hi => ?_
    by_cases hb : bad = some i
    · exact (hbad i hb).wkS fun Dn σ H q => q.2 hb
    · have hlt : ∀ j, bad = some j → i < j := fun j hj => Nat.lt_of_le_of_ne (hi.2 j hj) fun e => hb (by rw [e]; exact hj)
      exact (hgood i hi.1 hlt).wkS fun Dn σ H q => q.1 hlt
  have hfor := ps_for (pos := pos) hp hc hi hgp hbe hs
  refine ⟨fun pins s σ H Dn I q => ?_⟩
  obtain ⟨⟨B, D, E, k, k2⟩, kb⟩ := q
  refine wpAny_execs_cons (thn (hfor.run pins s σ H { Dn with nx := fun σ' H' => bad = none ∧ Same H H' ∧ Er B H' (u ds.length) σ' } I ⟨B, D, E, fun J H1 s1 gv => ?_⟩) fun f s2 z => ?_)
  · obtain ⟨G, Y, w, hG, hY⟩ := gv.ex
    refine for_it (D := { Dn with nx := fun σ' H' => bad = none ∧ Same H H' ∧ Er B H' (u ds.length) σ' }) (g := g) (tb := tbX ds.length v z bad Wd) w (fun i σ2 H2 => (∀ j, bad = some j → i ≤ j) ∧ Same H1 H2 ∧ Er B H2 (u i) σ2) ⟨fun _ _ => Nat.zero_le _, Same.refl _, E.same s1⟩ (fun i σ2 H2 hi h => hG H2 (Keep.of h.2.1)) ?_ ?_
    · rintro i x σ2 H2 H3 hi ⟨h1, h2, h3⟩ y
      have hd : ds[i]? = some ds[i] := List.getElem?_eq_getElem hi
      have D2 := (D.same s1).same h2
      obtain ⟨s3, rx⟩ := hY i _ H2 x H3 B hd (Keep.of h2) y D2 (fun b hb => hb) (fun b hb => .inl hb)
      refine hg i _ hd B H3 x σ2 _ (D2.same s3) (h3.same s3) rx fun σ3 E3 _ _ => ?_
      have s13 := s1.trans (h2.trans s3)
      refine ⟨i, ⟨hi, h1⟩, fun hlt => ⟨B, D2.same s3, E3, fun r' σ' H' n s4 E' => ?_, fun d v H' q => q.elim⟩, fun hb => ⟨B, D2.same s3, E3, hW _ _ s13 (kb i hb)⟩⟩
      subst n
      exact ⟨fun j hj => hlt j hj, h2.trans (s3.trans s4), hk i _ _ _ E'⟩
    · rintro σ2 H2 ⟨h1, h2, h3⟩
      refine ⟨?_, s1.trans h2, h3⟩
      cases hb : bad with
      | none => rfl
      | some j => exact absurd (h1 j hb) (Nat.not_le_of_lt (hbd j hb))
  · cases f with
    | next =>
      obtain ⟨σ', H', I', hn, s3, E'⟩ := z
      exact (hr hn).run pins s2 σ' H' Dn I' ⟨B, D.same s3, E', fun r' σ' H' n s2 E' => k r' σ' H' n (s3.trans s2) E', fun d v H' q s2 rv => k2 d v H' q (s3.trans s2) rv⟩
    | ret v => exact z
    | brk => exact z
    | cont => exact z
/-- if c: A, c true, A does not go on -/
theorem dx_if {A Bk : List Stmt} {Wd : Hp → Prop} {tr : TS} (hc : PT X c (tT r true)) (ha : PSs X A tr) (hW : ∀ H H', Same H H' → Wd H → Wd H') (hn : ∀ (Dn : Ends) σ H B, Dom B H → Er B H r σ → Wd H → tr { Dn with nx := fun _ _ => False } σ H) : PSs X (.If c A Bk pos :: rest) (fun Dn σ H => ∃ B, Dom B H ∧ Er B H r σ ∧ Wd H) := by
  refine ⟨fun pins s σ H Dn I q => ?_⟩
  obtain ⟨B, D, E, k⟩ := q
  refine wpAny_execs_cons (wpAny_If (thn (hc.run pins s σ H (fun c H1 => c = true ∧ Same H H1) I ⟨B, D, E, fun H1 s => ⟨rfl, s⟩⟩) fun b s1 ⟨H1, I1, e1, s1'⟩ => ?_))
  subst e1
  refine thn (ha.run pins s1 σ H1 { Dn with nx := fun _ _ => False } I1 (hn Dn σ H1 B (D.same s1') (E.same s1') (hW _ _ s1' k))) fun f s2 z => ?_
  cases f with
  | next =>
    obtain ⟨_, _, _, z⟩ := z
    exact z.elim
  | ret v => exact z
  | brk => exact z
  | cont => exact z
theorem dx_set (i : Nat) {x : Str} {pos' : Pos} {Wd : Hp → Prop} (hW : ∀ H H', Same H H' → Wd H → Wd H') (he : PE X e (tD r d)) (hr : PSs X rest (fun Dn σ H => tS (r.set i (some d)) N R Dn σ H ∧ Wd H)) (hN : X.N.Nodup) (hi : X.N[i]? = some x := by rfl) (hx : Loc X.env.scope x := by first | exact Or.inl rfl | exact Or.inr rfl) (hs : swapsWith e (some (.Name x pos')) pos.line X.env = pure false := by rfl)
    (hf : X.fn x = true ∨ X.env.scope.names.lookup x = some .local := by first | exact .inl rfl | exact .inr rfl) : PSs X (.Assign [.Name x pos'] e pos :: rest) (fun Dn σ H => tS r N R Dn σ H ∧ Wd H) :=
  (pss_cons (ps_set hN hi hx he hs hf) hr).wkS fun Dn σ H ⟨⟨B, D, E, k, k2⟩, kb⟩ => ⟨B, D, E, fun v H1 s1 rv => ⟨⟨B, D.same s1, (E.same s1).set rv i, fun r' σ' H' n s2 E' => k r' σ' H' n (s1.trans s2) E', fun d v H' q s2 rv => k2 d v H' q (s1.trans s2) rv⟩, hW _ _ s1 kb⟩⟩
end
end Sv
/-! part G8 -/
set_option Elab.async false
set_option linter.all false
set_option maxRecDepth 100000
set_option maxHeartbeats 4000000
namespace Sv
open PySem PySem.Spec PyProof.Rows L2 TL
/-! ### texts whose signs are signs -/
def okS (z : Str) : Prop := z.length ≤ 3000 ∧ PyData.strOk z = true
theorem strOk_iff {z : Str} : PyData.strOk z = true ↔ ∀ c ∈ tl z, c < 0x110000 := by
  unfold PyData.strOk
  rw [← Array.all_toList, List.all_eq_true]
  exact ⟨fun h c hc => of_decide_eq_true (h c hc), fun h c hc => decide_eq_true (h c hc)⟩
theorem spl_mem (S : List Nat) : ∀ (l : List Nat) (k : Nat) (acc : List Nat), ∀ p ∈ spl S k acc l, ∀ c ∈ p, c ∈ acc ∨ c ∈ l
  | [], k, acc, p, hp, c, hc => by
    rw [spl_nil, List.mem_singleton] at hp
    rw [hp] at hc
    exact .inl hc
  | d :: r, 0, acc, p, hp, c, hc => by
    cases h : pre S (d :: r) with
    | true =>
      rw [spl_hit h] at hp
      rcases List.mem_cons.mp hp with e | hp
      · rw [e] at hc; exact .inl hc
      · rcases spl_mem S r _ [] p hp c hc with q | q
        · simp at q
        · exact .inr (List.mem_cons_of_mem _ q)
    | false =>
      rw [spl_miss h] at hp
      rcases spl_mem S r 0 _ p hp c hc with q | q
      · rcases List.mem_append.mp q with q | q
        · exact .inl q
        · rw [List.mem_singleton] at q
          rw [q]
          exact .inr List.mem_cons_self
      · exact .inr (List.mem_cons_of_mem _ q)
  | d :: r, k + 1, acc, p, hp, c, hc => by
    have e : spl S (k + 1) acc (d :: r) = spl S k acc r := rfl
    rw [e] at hp
    rcases spl_mem S r k acc p hp c hc with q | q
    · exact .inl q
    · exact .inr (List.mem_cons_of_mem _ q)
theorem split_mem {y : Str} (hy : tl y ≠ []) (hk : y.cps.all (· < 256) = true) {z p : Str} (hp : p ∈ Txt.split z y) : ∀ c ∈ tl p, c ∈ tl z := fun c hc => by
  have e := split_spl z y hy (kind_ok hk)
  have h : tl p ∈ spl (tl y) 0 [] (tl z) := by
    rw [← e]
    exact List.mem_map.mpr ⟨p, hp, rfl⟩
  rcases spl_mem _ _ _ _ _ h c hc with q | q
  · simp at q
  · exact q
theorem okS_split {y : Str} (hy : y.cps.toList ≠ []) (hk : y.cps.all (· < 256) = true) {z : Str} (h : okS z) : ∀ p ∈ Txt.split z y, okS p := fun p hp =>
  ⟨(cutS_ok hy hk h.1).1 p hp, strOk_iff.mpr fun c hc => strOk_iff.mp h.2 c (split_mem hy hk hp c hc)⟩
theorem shaped_strs {ns : List Str} (h : ∀ z ∈ ns, PyData.strOk z = true) : SeqAt.shaped (.list (ns.map .str)) = true ∧ SeqAt.shaped (.tuple (ns.map .str)) = true := by
  have h1 : PyData.canLayAll0 (ns.map .str) = true := by
    induction ns with
    | nil => rfl
    | cons z ns ih =>
      show (PyData.strOk z && PyData.canLayAll0 (ns.map .str)) = true
      rw [h z List.mem_cons_self, ih fun x hx => h x (List.mem_cons_of_mem _ hx)]
      rfl
  have h2 : PyData.depth (.list (ns.map .str)) ≤ 2 ∧ PyData.depth (.tuple (ns.map .str)) ≤ 2 := by
    have : PyData.depthAll (ns.map .str) ≤ 1 := by
      clear h h1
      induction ns with
      | nil => decide
      | cons z ns ih =>
        simp only [List.map_cons, PyData.depthAll, PyData.depth]
        omega
    constructor <;> simp only [PyData.depth] <;> omega
  constructor
  · show (PyData.canLayAll0 (ns.map .str) && decide _) = true
    rw [h1, decide_eq_true (Nat.le_trans h2.1 (by decide))]
    rfl
  · show (PyData.canLayAll0 (ns.map .str) && decide _) = true
    rw [h1, decide_eq_true (Nat.le_trans h2.2 (by decide))]
    rfl
theorem eqv_strs : ∀ (xs ys : List Str), PyData.eqvAll (xs.map .str) (ys.map .str) = decide (xs = ys)
  | [], [] => by simp [PyData.eqvAll]
  | [], y :: ys => by simp [PyData.eqvAll]
  | x :: xs, [] => by simp [PyData.eqvAll]
  | x :: xs, y :: ys => by
    simp only [List.map_cons, PyData.eqvAll, PyData.eqv, eqv_strs xs ys]
    rw [Bool.eq_iff_iff]
    simp
theorem room_units {X : Cx} {k : Nat} (h : Room k X.A) : X.A.units + 64 < cLine := by have := h.un; omega
end Sv
/-! part G6 -/
set_option Elab.async false
set_option linter.all false
set_option maxRecDepth 100000
set_option maxHeartbeats 4000000
namespace Sv
open PySem PySem.Spec PyProof.Rows L2
/-! ### nested data -/
def okD : Nat → PyData → Prop
  | 0, d => flatD d = true
  | n + 1, d => flatD d = true ∨ ∃ ds, (d = .list ds ∨ d = .tuple ds) ∧ ds.length ≤ 3001 ∧ ∀ x ∈ ds, okD n x
theorem okD_flat {n : Nat} {d : PyData} (h : flatD d = true) : okD n d := by
  cases n with
  | zero => exact h
  | succ n => exact .inl h
theorem okD_up : ∀ {n m : Nat} {d : PyData}, n ≤ m → okD n d → okD m d
  | 0, m, d, _, h => okD_flat h
  | n + 1, 0, d, l, h => by omega
  | n + 1, m + 1, d, l, h => by
    rcases h with h | ⟨ds, h1, h2, h3⟩
    · exact .inl h
    · exact .inr ⟨ds, h1, h2, fun x hx => okD_up (Nat.le_of_succ_le_succ l) (h3 x hx)⟩
def tupN : Nat → PyData → PyData
  | n + 1, .list ds => .tuple (ds.map (tupN n))
  | n + 1, .tuple ds => .tuple (ds.map (tupN n))
  | _, d => d
def lisN : Nat → PyData → PyData
  | n + 1, .list ds => .list (ds.map (lisN n))
  | n + 1, .tuple ds => .list (ds.map (lisN n))
  | _, d => d
theorem tupN_flat {n : Nat} {d : PyData} (h : flatD d = true) : tupN n d = d := by
  cases n with
  | zero => rfl
  | succ n => cases d <;> first | rfl | exact absurd h Bool.false_ne_true
theorem lisN_flat {n : Nat} {d : PyData} (h : flatD d = true) : lisN n d = d := by
  cases n with
  | zero => rfl
  | succ n => cases d <;> first | rfl | exact absurd h Bool.false_ne_true
theorem kit_flat {d : PyData} (h : flatD d = true) : kitB (tyN d) "list" = some false ∧ kitB (tyN d) "tuple" = some false := by
  cases d <;> first | exact ⟨rfl, rfl⟩ | exact absurd h Bool.false_ne_true
section
variable {P : Program} {w : World} {K : PySem.W.Frag} {mg : Str → Option Value} {base : Heap}
/-! ### tupled -/
abbrev N7 : List Str := ["thing", "part"]
theorem sc7 : FnScope N7 ["thing"] (defScope (top 7)) := ⟨rfl, rfl, rfl, by decide +kernel, rfl, by decide +kernel, by decide +kernel⟩
abbrev F7 (n : Nat) : List PyData → PyData → Prop := fun ds d => ∃ x, ds = [x] ∧ okD n x ∧ d = tupN n x
theorem ok_tupled {f : Addr} {fd : FuncData} (F : FnP K "tupled" (top 7) f fd) (T : Tx mg) (hm : mg "tupled" = some (.ref f)) (hb : Binds K fd ["thing"] []) : ∀ n : Nat, FnOk P w K mg base CX0 (n + 1) f fd ["thing"] (spF (F7 n)) := by
  have flat : ∀ (n : Nat) (x : PyData), flatD x = true → ∀ (cdv : Value) (A : Around) (outer : List Env) (s : Shared) (H : Hp) (E : XK), PSs (cxOf CX0 P w K mg base N7 "tupled" (defScope (top 7)) f cdv A outer s H E).nox (defBody (top 7)) (tS (rho0 N7 [x]) (fun _ => False) (fun v => v = tupN n x)) := fun n x hx cdv A outer s H E => by
    obtain ⟨k1, k2⟩ := kit_flat hx
    refine (ds_ret (de_if (p := false) (d1 := .none) (dt_val (de_isi2 (t := "list") (t2 := "tuple") T.isinstance T.list T.tuple (by decide +kernel) (by decide +kernel) k1 k2 (de_var 0 rfl))) (fun h => nomatch h) (fun _ => de_var 0 rfl)) (by rw [tupN_flat hx]; rfl))
  intro n
  induction n with
  | zero =>
    refine fn_ok F sc7 (fun ds d ⟨x, h, _⟩ => by rw [h]; rfl) fun cdv A outer s H E hr ds d hF => ?_
    obtain ⟨x, rfl, hx, e2⟩ := hF
    rw [e2]
    exact (flat 0 x hx cdv A outer s H E).wkS fun Dn σ H ⟨B, D, Er_, k, k2⟩ => ⟨B, D, Er_, fun r' σ' H' n => n.elim, k2⟩
  | succ n ih =>
    have G : Hs P w K mg base (n + 1) "tupled" ["thing"] (F7 n) := ⟨f, fd, hm, F.kp, hb, ih⟩
    refine fn_ok F sc7 (fun ds d ⟨x, h, _⟩ => by rw [h]; rfl) fun cdv A outer s H E hr ds d hF => ?_
    obtain ⟨x, rfl, hx, rfl⟩ := hF
    rcases hx with hx | ⟨es, hx, hl, he⟩
    · exact (flat (n + 1) x hx cdv A outer s H E).wkS fun Dn σ H ⟨B, D, Er_, k, k2⟩ => ⟨B, D, Er_, fun r' σ' H' n => n.elim, k2⟩
    · rcases hx with hx | hx
      · subst hx
        show PSs _ _ (tS [some (.list es), none] _ _)
        refine ds_ret (de_if (p := true) (d2 := .none) (dt_val (de_isi2 (t := "list") (t2 := "tuple") (k1 := true) (k2 := false) T.isinstance T.list T.tuple (by decide +kernel) (by decide +kernel) rfl rfl (de_var 0 rfl))) (fun _ => de_tupL T.tuple (LcOk.pe (lk_N (N0 := N7) (sc0 := defScope (top 7)) 1 (f := tupN n) sc7.nd (by decide +kernel) (by rw [sizeLine_eq]; omega) (di_list (de_var 0 rfl)) (fun d hd s H C cl fp => ?_)) rfl sc7.nd)) (fun h => nomatch h)) rfl
        exact de_call G ⟨d, rfl, he d hd, rfl⟩ hr (da_cons (de_var 1 rfl) da_nil)
      · subst hx
        show PSs _ _ (tS [some (.tuple es), none] _ _)
        refine ds_ret (de_if (p := true) (d2 := .none) (dt_val (de_isi2 (t := "list") (t2 := "tuple") (k1 := false) (k2 := true) T.isinstance T.list T.tuple (by decide +kernel) (by decide +kernel) rfl rfl (de_var 0 rfl))) (fun _ => de_tupL T.tuple (LcOk.pe (lk_N (N0 := N7) (sc0 := defScope (top 7)) 1 (f := tupN n) sc7.nd (by decide +kernel) (by rw [sizeLine_eq]; omega) (di_tup (de_var 0 rfl)) (fun d hd s H C cl fp => ?_)) rfl sc7.nd)) (fun h => nomatch h)) rfl
        exact de_call G ⟨d, rfl, he d hd, rfl⟩ hr (da_cons (de_var 1 rfl) da_nil)
/-! ### _law_lists -/
abbrev N53 : List Str := ["_law_matter", "_law_bit"]
theorem sc53 : FnScope N53 ["_law_matter"] (defScope (top 53)) := ⟨rfl, rfl, rfl, by decide +kernel, rfl, by decide +kernel, by decide +kernel⟩
abbrev F53 (n : Nat) : List PyData → PyData → Prop := fun ds d => ∃ x, ds = [x] ∧ okD n x ∧ d = lisN n x
theorem ok_lists {f : Addr} {fd : FuncData} (F : FnP K "_law_lists" (top 53) f fd) (T : Tx mg) (hm : mg "_law_lists" = some (.ref f)) (hb : Binds K fd ["_law_matter"] []) : ∀ n : Nat, FnOk P w K mg base CX0 (n + 1) f fd ["_law_matter"] (spF (F53 n)) := by
  have flat : ∀ (n : Nat) (x : PyData), flatD x = true → ∀ (cdv : Value) (A : Around) (outer : List Env) (s : Shared) (H : Hp) (E : XK), PSs (cxOf CX0 P w K mg base N53 "_law_lists" (defScope (top 53)) f cdv A outer s H E).nox (defBody (top 53)) (tS (rho0 N53 [x]) (fun _ => False) (fun v => v = lisN n x)) := fun n x hx cdv A outer s H E => by
    obtain ⟨k1, k2⟩ := kit_flat hx
    refine (ds_ret (de_if (p := false) (d1 := .none) (dt_val (de_isi2 (t := "list") (t2 := "tuple") T.isinstance T.list T.tuple (by decide +kernel) (by decide +kernel) k1 k2 (de_var 0 rfl))) (fun h => nomatch h) (fun _ => de_var 0 rfl)) (by rw [lisN_flat hx]; rfl))
  intro n
  induction n with
  | zero =>
    refine fn_ok F sc53 (fun ds d ⟨x, h, _⟩ => by rw [h]; rfl) fun cdv A outer s H E hr ds d hF => ?_
    obtain ⟨x, rfl, hx, e2⟩ := hF
    rw [e2]
    exact (flat 0 x hx cdv A outer s H E).wkS fun Dn σ H ⟨B, D, Er_, k, k2⟩ => ⟨B, D, Er_, fun r' σ' H' n => n.elim, k2⟩
  | succ n ih =>
    have G : Hs P w K mg base (n + 1) "_law_lists" ["_law_matter"] (F53 n) := ⟨f, fd, hm, F.kp, hb, ih⟩
    refine fn_ok F sc53 (fun ds d ⟨x, h, _⟩ => by rw [h]; rfl) fun cdv A outer s H E hr ds d hF => ?_
    obtain ⟨x, rfl, hx, rfl⟩ := hF
    rcases hx with hx | ⟨es, hx, hl, he⟩
    · exact (flat (n + 1) x hx cdv A outer s H E).wkS fun Dn σ H ⟨B, D, Er_, k, k2⟩ => ⟨B, D, Er_, fun r' σ' H' n => n.elim, k2⟩
    · rcases hx with hx | hx
      · subst hx
        show PSs _ _ (tS [some (.list es), none] _ _)
        refine ds_ret (de_if (p := true) (d2 := .none) (dt_val (de_isi2 (t := "list") (t2 := "tuple") (k1 := true) (k2 := false) T.isinstance T.list T.tuple (by decide +kernel) (by decide +kernel) rfl rfl (de_var 0 rfl))) (fun _ => (LcOk.pe (lk_N (N0 := N53) (sc0 := defScope (top 53)) 1 (f := lisN n) sc53.nd (by decide +kernel) (by rw [sizeLine_eq]; omega) (di_list (de_var 0 rfl)) (fun d hd s H C cl fp => ?_)) rfl sc53.nd)) (fun h => nomatch h)) rfl
        exact de_call G ⟨d, rfl, he d hd, rfl⟩ hr (da_cons (de_var 1 rfl) da_nil)
      · subst hx
        show PSs _ _ (tS [some (.tuple es), none] _ _)
        refine ds_ret (de_if (p := true) (d2 := .none) (dt_val (de_isi2 (t := "list") (t2 := "tuple") (k1 := false) (k2 := true) T.isinstance T.list T.tuple (by decide +kernel) (by decide +kernel) rfl rfl (de_var 0 rfl))) (fun _ => (LcOk.pe (lk_N (N0 := N53) (sc0 := defScope (top 53)) 1 (f := lisN n) sc53.nd (by decide +kernel) (by rw [sizeLine_eq]; omega) (di_tup (de_var 0 rfl)) (fun d hd s H C cl fp => ?_)) rfl sc53.nd)) (fun h => nomatch h)) rfl
        exact de_call G ⟨d, rfl, he d hd, rfl⟩ hr (da_cons (de_var 1 rfl) da_nil)
/-! ### _law_same -/
abbrev N54 : List Str := ["_law_found", "_law_due", "_law_mine", "_law_its"]
theorem sc54 : FnScope N54 ["_law_found", "_law_due"] (defScope (top 54)) := ⟨rfl, rfl, rfl, by decide +kernel, rfl, by decide +kernel, by decide +kernel⟩
abbrev F54 (n : Nat) : List PyData → PyData → Prop := fun ds d => ∃ x, ds = [x, x] ∧ okD n x ∧ d = .bool true
theorem zip_self : ∀ (ds : List PyData) (d1 d2 : PyData), .tuple [d1, d2] ∈ zipD ds ds → d1 = d2 ∧ d1 ∈ ds
  | [], d1, d2, h => by simp [zipD] at h
  | a :: as, d1, d2, h => by
    rcases List.mem_cons.mp (show _ ∈ .tuple [a, a] :: zipD as as from h) with h | h
    · cases h
      exact ⟨rfl, List.mem_cons_self⟩
    · obtain ⟨h1, h2⟩ := zip_self as d1 d2 h
      exact ⟨h1, List.mem_cons_of_mem _ h2⟩
theorem ok_same {f : Addr} {fd : FuncData} (F : FnP K "_law_same" (top 54) f fd) (T : Tx mg) (hm : mg "_law_same" = some (.ref f)) (hb : Binds K fd ["_law_found", "_law_due"] []) : ∀ n : Nat, FnOk P w K mg base CX0 (n + 1) f fd ["_law_found", "_law_due"] (spF (F54 n)) := by
  have flat : ∀ (x : PyData), flatD x = true → ∀ (cdv : Value) (A : Around) (outer : List Env) (s : Shared) (H : Hp) (E : XK), PSs (cxOf CX0 P w K mg base N54 "_law_same" (defScope (top 54)) f cdv A outer s H E).nox (defBody (top 54)) (tS (rho0 N54 [x, x]) (fun _ => False) (fun v => v = .bool true)) := fun x hx cdv A outer s H E => by
    obtain ⟨k1, k2⟩ := kit_flat hx
    show PSs _ _ (tS [some x, some x, none, none] _ _)
    refine ds_ifR (p := false) (dt_val (de_isi2 (t := "list") (t2 := "tuple") T.isinstance T.list T.tuple (by decide +kernel) (by decide +kernel) k1 k2 (de_var 1 rfl))) (fun h => nomatch h) (fun _ => ?_)
    cases x with
    | list es => exact absurd hx Bool.false_ne_true
    | tuple es => exact absurd hx Bool.false_ne_true
    | dict es => exact absurd hx Bool.false_ne_true
    | none =>
      refine ds_ifR (p := true) (dt_of (PW.pt (dw_or (q := true) (dt_cmp op_isN od_isN (de_var 1 rfl) de_non rfl) (fun h => nomatch h))) rfl) (fun _ => ?_) (fun h => nomatch h)
      exact ds_ret (de_and (p := true) (de_cmp op_eq (od_eqF rfl) (de_var 0 rfl) (de_var 1 rfl) (nomark _)) fun _ => de_and (p := true) (de_cmp op_eq (od_eqF rfl) (de_isi (t := "bool") (k := false) T.isinstance T.bool (by decide +kernel) rfl (de_var 0 rfl)) (de_isi (t := "bool") (k := false) T.isinstance T.bool (by decide +kernel) rfl (de_var 1 rfl)) (nomark _)) fun _ => de_one (de_cmp op_eq (od_eqF rfl) (de_cmp op_isN od_isN (de_var 0 rfl) de_non rfl) (de_cmp op_isN od_isN (de_var 1 rfl) de_non rfl) (nomark _))) rfl
    | bool b =>
      refine ds_ifR (p := true) (PW.pt (dw_or (p := false) (dt_cmp op_isN od_isN (de_var 1 rfl) de_non rfl) (fun h => dw_or1 (dt_val (de_isi2 (t := "bool") (t2 := "str") (k1 := true) (k2 := false) T.isinstance T.bool T.str (by decide +kernel) (by decide +kernel) rfl rfl (de_var 1 rfl)))))) (fun _ => ?_) (fun h => nomatch h)
      exact ds_ret (de_and (p := PyData.eqv (.bool b) (.bool b)) (de_cmp op_eq (od_eqF rfl) (de_var 0 rfl) (de_var 1 rfl) (nomark _)) fun _ => de_and (p := true) (de_cmp op_eq (od_eqF rfl) (de_isi (t := "bool") (k := true) T.isinstance T.bool (by decide +kernel) rfl (de_var 0 rfl)) (de_isi (t := "bool") (k := true) T.isinstance T.bool (by decide +kernel) rfl (de_var 1 rfl)) (nomark _)) fun _ => de_one (de_cmp op_eq (od_eqF rfl) (de_cmp op_isN od_isN (de_var 0 rfl) de_non rfl) (de_cmp op_isN od_isN (de_var 1 rfl) de_non rfl) (nomark _))) (by cases b <;> rfl)
    | str z =>
      have e : PyData.eqv (.str z) (.str z) = true := by simp [PyData.eqv]
      refine ds_ifR (p := true) (PW.pt (dw_or (p := false) (dt_cmp op_isN od_isN (de_var 1 rfl) de_non rfl) (fun h => dw_or1 (dt_val (de_isi2 (t := "bool") (t2 := "str") (k1 := false) (k2 := true) T.isinstance T.bool T.str (by decide +kernel) (by decide +kernel) rfl rfl (de_var 1 rfl)))))) (fun _ => ?_) (fun h => nomatch h)
      exact ds_ret (de_and (p := PyData.eqv (.str z) (.str z)) (de_cmp op_eq (od_eqF rfl) (de_var 0 rfl) (de_var 1 rfl) (nomark _)) fun _ => de_and (p := true) (de_cmp op_eq (od_eqF rfl) (de_isi (t := "bool") (k := false) T.isinstance T.bool (by decide +kernel) rfl (de_var 0 rfl)) (de_isi (t := "bool") (k := false) T.isinstance T.bool (by decide +kernel) rfl (de_var 1 rfl)) (nomark _)) fun _ => de_one (de_cmp op_eq (od_eqF rfl) (de_cmp op_isN od_isN (de_var 0 rfl) de_non rfl) (de_cmp op_isN od_isN (de_var 1 rfl) de_non rfl) (nomark _))) (by rw [e]; rfl)
    | int i =>
      refine ds_ifR (p := false) (PW.pt (dw_or (p := false) (dt_cmp op_isN od_isN (de_var 1 rfl) de_non rfl) (fun h => dw_or1 (dt_val (de_isi2 (t := "bool") (t2 := "str") (k1 := false) (k2 := false) T.isinstance T.bool T.str (by decide +kernel) (by decide +kernel) rfl rfl (de_var 1 rfl)))))) (fun h => nomatch h) (fun _ => ?_)
      exact ds_ret (de_and (p := true) (de_isi (t := "int") T.isinstance T.int (by decide +kernel) rfl (de_var 0 rfl)) fun _ => de_and (p := true) (de_not (p := false) (de_isi (t := "bool") T.isinstance T.bool (by decide +kernel) rfl (de_var 0 rfl))) fun _ => de_one (de_cmp op_eq od_eqI (de_var 0 rfl) (de_var 1 rfl) (nomark _))) (by simp)
  intro n
  induction n with
  | zero =>
    refine fn_ok F sc54 (fun ds d ⟨x, h, _⟩ => by rw [h]; rfl) fun cdv A outer s H E hr ds d hF => ?_
    obtain ⟨x, rfl, hx, rfl⟩ := hF
    exact (flat x hx cdv A outer s H E).wkS fun Dn σ H ⟨B, D, Er_, k, k2⟩ => ⟨B, D, Er_, fun r' σ' H' n => n.elim, k2⟩
  | succ n ih =>
    have G : Hs P w K mg base (n + 1) "_law_same" ["_law_found", "_law_due"] (F54 n) := ⟨f, fd, hm, F.kp, hb, ih⟩
    refine fn_ok F sc54 (fun ds d ⟨x, h, _⟩ => by rw [h]; rfl) fun cdv A outer s H E hr ds d hF => ?_
    obtain ⟨x, rfl, hx, rfl⟩ := hF
    rcases hx with hx | ⟨es, hx, hl, he⟩
    · exact (flat x hx cdv A outer s H E).wkS fun Dn σ H ⟨B, D, Er_, k, k2⟩ => ⟨B, D, Er_, fun r' σ' H' n => n.elim, k2⟩
    · have zl : (zipD es es).length < sizeLine := by
        rw [zipD_length, sizeLine_eq]
        omega
      rcases hx with hx | hx
      · subst hx
        show PSs _ _ (tS [some (.list es), some (.list es), none, none] _ _)
        refine ds_if (N1 := fun _ => False) (p := true) (dt_val (de_isi2 (t := "list") (t2 := "tuple") (k1 := true) (k2 := false) T.isinstance T.list T.tuple (by decide +kernel) (by decide +kernel) rfl rfl (de_var 1 rfl))) (fun _ => ?_) (fun h => nomatch h) (fun r' z => z.elim)
        refine ds_ifR (p := false) (PW.pt (dw_or (p := false) (dt_cmp op_ne (od_neF rfl) (de_isi (t := "list") (k := true) T.isinstance T.list (by decide +kernel) rfl (de_var 0 rfl)) (de_isi (t := "list") (k := true) T.isinstance T.list (by decide +kernel) rfl (de_var 1 rfl)) (nomark _)) fun _ => dw_or1 (dt_cmp op_ne (od_neF rfl) (de_isi (t := "tuple") (k := false) T.isinstance T.tuple (by decide +kernel) rfl (de_var 0 rfl)) (de_isi (t := "tuple") (k := false) T.isinstance T.tuple (by decide +kernel) rfl (de_var 1 rfl)) (nomark _)))) (fun h => nomatch h) (fun _ => ?_)
        refine ds_ret (de_and (de_cmp op_eq od_eqI (de_lenL T.len (de_var 0 rfl)) (de_lenL T.len (de_var 1 rfl)) (nomark _)) fun _ => de_one (de_allM (f := fun _ => .bool true) (g := fun _ => true) rfl T.all (fun d hd => rfl) (LcOk.pe (lk_P (N0 := N54) (sc0 := defScope (top 54)) 2 3 (f := fun _ => .bool true) rfl sc54.nd (by decide +kernel) zl (di_zipL T.zip (de_var 0 rfl) (de_var 1 rfl)) (zip_pairs _ _) (fun d1 d2 hd s H C cl fp => ?_)) rfl sc54.nd))) (by simp)
        obtain ⟨e, h2⟩ := zip_self _ _ _ hd
        subst e
        exact de_call G ⟨d1, rfl, he d1 h2, rfl⟩ hr (da_cons (de_var 2 rfl) (da_cons (de_var 3 rfl) da_nil))
      · subst hx
        show PSs _ _ (tS [some (.tuple es), some (.tuple es), none, none] _ _)
        refine ds_if (N1 := fun _ => False) (p := true) (dt_val (de_isi2 (t := "list") (t2 := "tuple") (k1 := false) (k2 := true) T.isinstance T.list T.tuple (by decide +kernel) (by decide +kernel) rfl rfl (de_var 1 rfl))) (fun _ => ?_) (fun h => nomatch h) (fun r' z => z.elim)
        refine ds_ifR (p := false) (PW.pt (dw_or (p := false) (dt_cmp op_ne (od_neF rfl) (de_isi (t := "list") (k := false) T.isinstance T.list (by decide +kernel) rfl (de_var 0 rfl)) (de_isi (t := "list") (k := false) T.isinstance T.list (by decide +kernel) rfl (de_var 1 rfl)) (nomark _)) fun _ => dw_or1 (dt_cmp op_ne (od_neF rfl) (de_isi (t := "tuple") (k := true) T.isinstance T.tuple (by decide +kernel) rfl (de_var 0 rfl)) (de_isi (t := "tuple") (k := true) T.isinstance T.tuple (by decide +kernel) rfl (de_var 1 rfl)) (nomark _)))) (fun h => nomatch h) (fun _ => ?_)
        refine ds_ret (de_and (de_cmp op_eq od_eqI (de_lenT T.len (de_var 0 rfl)) (de_lenT T.len (de_var 1 rfl)) (nomark _)) fun _ => de_one (de_allM (f := fun _ => .bool true) (g := fun _ => true) rfl T.all (fun d hd => rfl) (LcOk.pe (lk_P (N0 := N54) (sc0 := defScope (top 54)) 2 3 (f := fun _ => .bool true) rfl sc54.nd (by decide +kernel) zl (di_zipT T.zip (de_var 0 rfl) (de_var 1 rfl)) (zip_pairs _ _) (fun d1 d2 hd s H C cl fp => ?_)) rfl sc54.nd))) (by simp)
        obtain ⟨e, h2⟩ := zip_self _ _ _ hd
        subst e
        exact de_call G ⟨d1, rfl, he d1 h2, rfl⟩ hr (da_cons (de_var 2 rfl) (da_cons (de_var 3 rfl) da_nil))
end
end Sv
/-! part G7 -/
set_option Elab.async false
set_option linter.all false
set_option maxRecDepth 100000
set_option maxHeartbeats 4000000
namespace Sv
open PySem PySem.Spec PyProof.Rows L2
/-! ### the dict of the answers -/
def leafOf : Option Bool → Leaf
  | some true => .num 1
  | some false => .num 0
  | none => .none
structure Ad (P : Program) (w : World) (K : PySem.W.Frag) (mg : Str → Option Value) : Prop where
  ex : ∃ (d : Addr) (es : Array DictEntry) (n : Nat), mg "ANSWERS" = some (.ref d) ∧ K.lookup d = some ⟨.type "dict", none, .dict es n, #[]⟩ ∧ PySem.KeysOf (leafKind P w) es ∧ ∀ a : Option Bool, ∃ t, findBy (leafKind P w).is es (leafOf a) = some (.str (ansT a) t)
theorem leaf_is {P : Program} {w : World} {H : Hp} (a : Option Bool) {v : Value} (h : RelV (ansV a) v) : (leafKind P w).is (leafOf a) v = true := by
  cases a with
  | none =>
    cases (show v = Value.none from h)
    rfl
  | some b =>
    cases (show v = Value.bool b from h)
    cases b <;> rfl
def rAns (X : Cx) : R2 := fun x y H Q => ∃ (d : Addr) (es : Array DictEntry) (n : Nat) (a : Option Bool) (u : Value), x = .ref d ∧ y = ansV a ∧ X.K.lookup d = some ⟨.type "dict", none, .dict es n, #[]⟩ ∧ PySem.KeysOf (leafKind X.prog X.w) es ∧ findBy (leafKind X.prog X.w).is es (leafOf a) = some u ∧ (∃ t, u = .str (ansT a) t) ∧ Q (.str (ansT a)) H
theorem ix_ans {X : Cx} : IxR X (rAns X) := by
  intro value slice pins s σ H x y v u Q I rx ry h hs
  obtain ⟨d, es, n, a, z, rfl, rfl, hl, hk, hf, ⟨t, rfl⟩, q⟩ := h
  obtain rfl : v = Value.ref d := rx
  have hm : s.heap.MapOf (leafKind X.prog X.w) d (fun k => findBy (leafKind X.prog X.w).is es k) := ⟨_, es, n, I.kIn _ _ hl, ⟨rfl, rfl, rfl⟩, rfl, hk, fun _ => rfl⟩
  exact tail_any hm.typeIs slot_dict_getitem.lookup (wpAny_getItem_of (leaf_is (H := H) a ry) hm hf ⟨.str (ansT a), H, I.tok _, ⟨t, rfl⟩, q⟩) hs
theorem ansV_of {B : List Addr} {H : Hp} {v : V} {a : Option Bool} (r : Rp B H v (ansD a)) : v = ansV a := by
  cases a with
  | none => cases r; rfl
  | some b => cases r; rfl
section
variable {X : Cx} {r : Rho} {e : Expr} {pos pp : Pos} {a : Option Bool}
theorem de_answers (W : Ad X.prog X.w X.K X.mg) (h : PE X e (tD r (ansD a))) (hg : Gl X "ANSWERS" := by rfl) (hs : PlainIx e := by exact fun _ _ => rfl) : PE X (.Subscript (.Name "ANSWERS" pp) e pos) (tD r (.str (ansT a))) := by
  obtain ⟨d, es, n, m, hl, hk, look⟩ := W.ex
  refine (pe_ix ix_ans (pe_glob (v := .ref d) hg m rfl) h hs).wkS fun σ H Q ⟨B, DD, E, k⟩ => ⟨B, DD, E, fun v H1 s1 rv => ?_⟩
  obtain ⟨t, hf⟩ := look a
  exact ⟨d, es, n, a, _, rfl, ansV_of rv, hl, hk, hf, ⟨t, rfl⟩, k _ H1 s1 (.str _)⟩
end
/-! ### rows that are told -/
def okR (r : Row) : Prop := (0 ≤ r.x ∧ r.x ≤ 999) ∧ (0 ≤ r.y ∧ r.y ≤ 999) ∧ (0 ≤ r.u ∧ r.u ≤ 999) ∧ r.ns.length ≤ 10 ∧ ∀ z ∈ r.ns, z.length ≤ 10
theorem log_ok {i : Int} (h : 0 ≤ i ∧ i ≤ 999) : i.natAbs.log2 < 1920 := by
  have h1 : i.natAbs < 2 ^ 1920 := Nat.lt_of_lt_of_le (show i.natAbs < 2 ^ 10 by omega) (Nat.pow_le_pow_right (Nat.succ_pos 1) (by decide))
  by_cases h0 : i.natAbs = 0
  · rw [h0]; decide
  · exact (Nat.log2_lt h0).mpr h1
theorem len_txI {i : Int} (h : 0 ≤ i ∧ i ≤ 999) : (txI i).length ≤ 10 := PySem.W.KT.len_num h.1 (by omega)
theorem sum_len {ys : List Str} {L : Nat} (h : ∀ z ∈ ys, z.length ≤ L) : (ys.map (·.length)).sum ≤ ys.length * L := by
  induction ys with
  | nil => simp
  | cons y ys ih =>
    have h1 := h y List.mem_cons_self
    have h2 := ih fun z hz => h z (List.mem_cons_of_mem _ hz)
    simp only [List.map_cons, List.sum_cons, List.length_cons]
    rw [Nat.succ_mul]
    omega
theorem join_len {g : Str} {ys : List Str} {L : Nat} (h : ∀ z ∈ ys, z.length ≤ L) : (Txt.join g ys).length ≤ ys.length * L + ys.length * g.length := by
  rw [TL.join_eq]
  exact Nat.le_trans (StrLaws.join_length_le g ys) (Nat.add_le_add_right (sum_len h) _)
theorem join_names {ns : List Str} (h1 : ns.length ≤ 10) (h2 : ∀ z ∈ ns, z.length ≤ 10) : (Txt.join "," ns).length ≤ 110 := by
  refine Nat.le_trans (join_len h2) ?_
  rw [show ("," : Str).length = 1 by rfl]
  omega
theorem join_fits {g : Str} {ys : List Str} {L : Nat} (h : ∀ z ∈ ys, z.length ≤ L) (h2 : ys.length * L + ys.length * g.length ≤ 16777216) : (ys.map (·.length)).sum + ys.length * g.length ≤ 16777216 := Nat.le_trans (Nat.add_le_add_right (sum_len h) _) h2
theorem add_fits {a b : Str} {m n : Nat} (h1 : a.length ≤ m) (h2 : b.length ≤ n) (h : m + n ≤ 100000) : a.length + b.length ≤ sizeLine ∧ (a ++ b).length ≤ m + n := by
  rw [PySem.Str.length_append, sizeLine_eq]
  omega
theorem ansT_len (a : Option Bool) : (ansT a).length ≤ 3 := by
  rcases a with _ | _ | _ <;> decide
section
variable {P : Program} {w : World} {K : PySem.W.Frag} {mg : Str → Option Value} {base : Heap}
/-! ### joined -/
abbrev N35 : List Str := ["words", "gap"]
theorem sc35 : FnScope N35 ["words", "gap"] (defScope (top 35)) := ⟨rfl, rfl, rfl, by decide +kernel, rfl, by decide +kernel, by decide +kernel⟩
def joinedS (ws : List Str) (g : Str) : Str := if ws = [] then "-" else Txt.join g ws
abbrev F35 : List PyData → PyData → Prop := fun ds d => ∃ (ws : List Str) (g : Str), ds = [.list (ws.map .str), .str g] ∧ (ws.length ≤ 1000 ∧ (∀ z ∈ ws, z.length ≤ 1000) ∧ g.length ≤ 10) ∧ d = .str (joinedS ws g)
theorem ok_joined {f : Addr} {fd : FuncData} (F : FnP K "joined" (top 35) f fd) (T : Tx mg) : FnOk P w K mg base CX0 1 f fd ["words", "gap"] (spF F35) := by
  refine fn_ok F sc35 (fun ds d ⟨ws, g, h, _⟩ => by rw [h]; rfl) fun cdv A outer s H E hr ds d hF => ?_
  obtain ⟨ws, g, rfl, ⟨h1, h2, h3⟩, rfl⟩ := hF
  show PSs _ _ (tS [some (.list (ws.map .str)), some (.str g)] _ _)
  refine ds_ret (de_if (dt_cmp op_gt od_gt (de_lenL T.len (de_var 0 rfl)) de_int (nomark _)) (fun h => de_join (Or.inl rfl) (join_fits h2 ?_) (de_var 1 rfl) (de_var 0 rfl)) (fun h => de_gstr T.dash)) ?_
  · have : ws.length * 1000 ≤ 1000 * 1000 := Nat.mul_le_mul_right _ h1
    have : ws.length * g.length ≤ 1000 * 10 := Nat.mul_le_mul h1 h3
    omega
  · unfold joinedS
    cases ws with
    | nil => rfl
    | cons x r =>
      have e1 : decide ((0 : Int) < (((List.map PyData.str (x :: r)).length : Nat) : Int)) = true := decide_eq_true (by simp only [List.length_map, List.length_cons]; omega)
      rw [e1]
      rfl
/-! ### session_text -/
abbrev N36 : List Str := ["row"]
theorem sc36 : FnScope N36 ["row"] (defScope (top 36)) := ⟨rfl, rfl, rfl, by decide +kernel, rfl, by decide +kernel, by decide +kernel⟩
abbrev F36 : List PyData → PyData → Prop := fun ds d => ∃ (r : Row), ds = [rowD false r] ∧ okR r ∧ d = .str (rowT false r)
theorem ok_session_text {f : Addr} {fd : FuncData} (F : FnP K "session_text" (top 36) f fd) (T : Tx mg) : FnOk P w K mg base CX0 1 f fd ["row"] (spF F36) := by
  refine fn_ok F sc36 (fun ds d ⟨r, h, _⟩ => by rw [h]; rfl) fun cdv A outer s H E hr ds d hF => ?_
  obtain ⟨r, rfl, ⟨hx, hy, hu, h4, h5⟩, rfl⟩ := hF
  show PSs _ _ (tS [some (.tuple [.int r.x, .int r.u, namesD r.ns])] _ _)
  have lx := len_txI hx
  have lu := len_txI hu
  have ln := join_names h4 h5
  have a1 := add_fits (b := "-") lx (show ("-" : Str).length ≤ 1 by decide) (by decide)
  have a2 := add_fits a1.2 lu (by decide)
  have a3 := add_fits (b := " ") a2.2 (show (" " : Str).length ≤ 1 by decide) (by decide)
  have a4 := add_fits a3.2 ln (by decide)
  exact ds_ret (de_bin op_add_str (od_addS a4.1) (de_bin op_add_str (od_addS a3.1) (de_bin op_add_str (od_addS a2.1) (de_bin op_add_str (od_addS a1.1) (de_strI T.str (log_ok hx) (de_ixT (d := .int r.x) rfl (de_var 0 rfl) de_int)) (de_gstr T.dash)) (de_strI T.str (log_ok hu) (de_ixT (d := .int r.u) rfl (de_var 0 rfl) de_int))) (de_gstr T.blank))
    (de_join (Or.inr rfl) (join_fits h5 (by rw [show ("," : Str).length = 1 by rfl]; omega)) (de_gstr T.comma) (de_ixT (d := namesD r.ns) rfl (de_var 0 rfl) de_int))) rfl
/-! ### row_text -/
abbrev N37 : List Str := ["row", "low", "high", "save", "names", "answer", "opening"]
theorem sc37 : FnScope N37 ["row"] (defScope (top 37)) := ⟨rfl, rfl, rfl, by decide +kernel, rfl, by decide +kernel, by decide +kernel⟩
abbrev F37 : List PyData → PyData → Prop := fun ds d => ∃ (r : Row), ds = [rowD true r] ∧ okR r ∧ d = .str (rowT true r)
theorem open_len {r : Row} (hx : 0 ≤ r.x ∧ r.x ≤ 999) (hy : 0 ≤ r.y ∧ r.y ≤ 999) : (openT r).length ≤ 21 := by
  unfold openT
  have lx := len_txI hx
  have ly := len_txI hy
  split
  · omega
  · exact (add_fits (add_fits (b := "/") lx (show ("/" : Str).length ≤ 1 by decide) (by decide)).2 ly (by decide)).2
theorem join3 (a b c : Str) : Txt.join " " [a, b, c] = a ++ " " ++ b ++ " " ++ c := by
  refine TL.ext_tl ?_
  rw [TL.join_eq, TL.tl_join]
  simp only [List.map_cons, List.map_nil, TL.joinL, TL.tl_append, List.append_assoc]
theorem ok_row_text {f : Addr} {fd : FuncData} (F : FnP K "row_text" (top 37) f fd) (T : Tx mg) (W : Ad P w K mg) : FnOk P w K mg base CX0 1 f fd ["row"] (spF F37) := by
  refine fn_ok F sc37 (fun ds d ⟨r, h, _⟩ => by rw [h]; rfl) fun cdv A outer s H E hr ds d hF => ?_
  obtain ⟨r, rfl, ⟨hx, hy, hu, h4, h5⟩, rfl⟩ := hF
  show PSs _ _ (tS [some (.tuple [.int r.x, .int r.y, .int r.u, namesD r.ns, ansD r.a]), none, none, none, none, none, none] _ _)
  have lx := len_txI hx
  have ly := len_txI hy
  have lu := len_txI hu
  have ln := join_names h4 h5
  have lo := open_len hx hy
  have a1 := add_fits (b := "/") lx (show ("/" : Str).length ≤ 1 by decide) (by decide)
  have a2 := add_fits a1.2 ly (by decide)
  have b1 := add_fits (b := "-") lo (show ("-" : Str).length ≤ 1 by decide) (by decide)
  have b2 := add_fits b1.2 lu (by decide)
  refine ds_unp [1, 2, 3, 4, 5] (pgs_ns_cons sc37.nd (pgs_ns_cons sc37.nd (pgs_ns_cons sc37.nd (pgs_ns_cons sc37.nd (pgs_ns_cons sc37.nd pgs_ns_nil))))) rfl (de_var 0 rfl) ?_ rfl
  show PSs _ _ (tS [some (.tuple [.int r.x, .int r.y, .int r.u, namesD r.ns, ansD r.a]), some (.int r.x), some (.int r.y), some (.int r.u), some (namesD r.ns), some (ansD r.a), none] _ _)
  refine ds_set (d := .str (openT r)) 6 (de_of (de_if (dt_cmp op_eq od_eqI (de_var 1 rfl) (de_var 2 rfl) (nomark _)) (fun _ => de_strI T.str (log_ok hx) (de_var 1 rfl)) (fun _ => de_bin op_add_str (od_addS a2.1) (de_bin op_add_str (od_addS a1.1) (de_strI T.str (log_ok hx) (de_var 1 rfl)) (de_gstr T.slash)) (de_strI T.str (log_ok hy) (de_var 2 rfl)))) ?_) ?_ sc37.nd
  · unfold openT
    by_cases h : r.x = r.y
    · rw [if_pos h, decide_eq_true h]
      rfl
    · rw [if_neg h, decide_eq_false h]
      rfl
  · refine ds_ret (de_join (ys := [openT r ++ "-" ++ txI r.u, Txt.join "," r.ns, ansT r.a]) (Or.inl rfl) (join_fits (L := 200) (fun z hz => ?_) (Nat.le_of_ble_eq_true rfl)) (de_gstr T.blank) (de_lst (da_cons (de_bin op_add_str (od_addS b2.1) (de_bin op_add_str (od_addS b1.1) (de_var 6 rfl) (de_gstr T.dash)) (de_strI T.str (log_ok hu) (de_var 3 rfl)))
      (da_cons (de_join (Or.inr rfl) (join_fits h5 (by rw [show ("," : Str).length = 1 by rfl]; omega)) (de_gstr T.comma) (de_var 4 rfl)) (da_cons (de_answers W (de_var 5 rfl)) da_nil))) (sz_ok rfl))) ?_
    · simp only [List.mem_cons, List.not_mem_nil, or_false] at hz
      have := ansT_len r.a
      rcases hz with e | e | e <;> subst e
      · have := b2.2; omega
      · omega
      · omega
    · rw [join3]
      rfl
/-! ### sessions_text, log_text -/
abbrev N38 : List Str := ["sessions", "row"]
theorem sc38 : FnScope N38 ["sessions"] (defScope (top 38)) := ⟨rfl, rfl, rfl, by decide +kernel, rfl, by decide +kernel, by decide +kernel⟩
abbrev N39 : List Str := ["log", "row"]
theorem sc39 : FnScope N39 ["log"] (defScope (top 39)) := ⟨rfl, rfl, rfl, by decide +kernel, rfl, by decide +kernel, by decide +kernel⟩
def okRs (rs : List Row) : Prop := rs.length ≤ 7 ∧ ∀ r ∈ rs, okR r
abbrev F38 (b : Bool) : List PyData → PyData → Prop := fun ds d => ∃ (x : PyData) (rs : List Row), ds = [x] ∧ okD 5 x ∧ tupN 5 x = .tuple (rs.map (rowD b)) ∧ okRs rs ∧ d = .str (sheetT b rs)
theorem rowT_len {b : Bool} {r : Row} (h : okR r) : (rowT b r).length ≤ 200 := by
  obtain ⟨hx, hy, hu, h4, h5⟩ := h
  have lx := len_txI hx
  have lu := len_txI hu
  have ln := join_names h4 h5
  have lo := open_len hx hy
  have la := ansT_len r.a
  cases b with
  | false =>
    show (txI r.x ++ "-" ++ txI r.u ++ " " ++ Txt.join "," r.ns).length ≤ 200
    simp only [PySem.Str.length_append]
    have : ("-" : Str).length = 1 := rfl
    have : (" " : Str).length = 1 := rfl
    omega
  | true =>
    show (openT r ++ "-" ++ txI r.u ++ " " ++ Txt.join "," r.ns ++ " " ++ ansT r.a).length ≤ 200
    simp only [PySem.Str.length_append]
    have : ("-" : Str).length = 1 := rfl
    have : (" " : Str).length = 1 := rfl
    omega
def rowOf (b : Bool) : PyData → Str
  | .tuple [.int x, .int u, .tuple ns] => rowT false ⟨x, x, u, ns.map strOfD, none⟩
  | .tuple [.int x, .int y, .int u, .tuple ns, .none] => rowT true ⟨x, y, u, ns.map strOfD, none⟩
  | .tuple [.int x, .int y, .int u, .tuple ns, .bool a] => rowT true ⟨x, y, u, ns.map strOfD, some a⟩
  | _ => Str.empty
theorem strs_back (ns : List Str) : (ns.map PyData.str).map strOfD = ns := by
  rw [List.map_map]
  exact List.map_id'' (fun _ => rfl) ns
theorem rowOf_ok (b : Bool) (r : Row) : rowOf b (rowD b r) = rowT b r := by
  obtain ⟨x, y, u, ns, a⟩ := r
  cases b with
  | false =>
    show rowT false ⟨x, x, u, (ns.map PyData.str).map strOfD, none⟩ = _
    rw [strs_back]
    rfl
  | true =>
    rcases a with _ | a
    · show rowT true ⟨x, y, u, (ns.map PyData.str).map strOfD, none⟩ = _
      rw [strs_back]
    · show rowT true ⟨x, y, u, (ns.map PyData.str).map strOfD, some a⟩ = _
      rw [strs_back]
theorem rows_map (b : Bool) (rs : List Row) : (rs.map (rowD b)).map (fun d => PyData.str (rowOf b d)) = (rs.map (rowT b)).map .str := by
  rw [List.map_map, List.map_map]
  exact List.map_congr_left fun r _ => by
    show PyData.str (rowOf b (rowD b r)) = .str (rowT b r)
    rw [rowOf_ok]
theorem rows_fit {b : Bool} {rs : List Row} (h : okRs rs) : ((rs.map (rowT b)).map (·.length)).sum + (rs.map (rowT b)).length * ("\n" : Str).length ≤ 16777216 := by
  refine join_fits (L := 200) (fun z hz => ?_) ?_
  · obtain ⟨r, hr, e⟩ := List.mem_map.mp hz
    subst e
    exact rowT_len (h.2 r hr)
  · have := h.1
    rw [List.length_map, show ("\n" : Str).length = 1 by rfl]
    omega
theorem sheetT_len {b : Bool} {rs : List Row} (h : okRs rs) : (sheetT b rs).length ≤ 1500 := by
  unfold sheetT
  refine Nat.le_trans (join_len (L := 200) fun z hz => ?_) ?_
  · obtain ⟨r, hr, e⟩ := List.mem_map.mp hz
    subst e
    exact rowT_len (h.2 r hr)
  · have := h.1
    rw [List.length_map, show ("\n" : Str).length = 1 by rfl]
    omega
theorem ok_sessions_text {f : Addr} {fd : FuncData} (F : FnP K "sessions_text" (top 38) f fd) (T : Tx mg) (G7 : Hs P w K mg base 6 "tupled" ["thing"] (F7 5)) (G36 : Hs P w K mg base 6 "session_text" ["row"] F36) : FnOk P w K mg base CX0 7 f fd ["sessions"] (spF (F38 false)) := by
  refine fn_ok F sc38 (fun ds d ⟨x, rs, h, _⟩ => by rw [h]; rfl) fun cdv A outer s H E hr ds d hF => ?_
  obtain ⟨x, rs, rfl, hx, ht, hrs, rfl⟩ := hF
  show PSs _ _ (tS [some x, none] _ _)
  refine ds_ret (de_join (ys := rs.map (rowT false)) (Or.inl rfl) (rows_fit hrs) (de_gstr T.feed) (de_of (LcOk.pe (lk_N (N0 := N38) (sc0 := defScope (top 38)) 1 (ds := rs.map (rowD false)) (f := fun d => .str (rowOf false d)) sc38.nd (by decide +kernel) ?_ (di_tup (de_of (de_call G7 ⟨x, rfl, hx, rfl⟩ hr (da_cons (de_var 0 rfl) da_nil)) ht)) (fun d hd s H C cl fp => ?_)) rfl sc38.nd) (by rw [rows_map]))) rfl
  · rw [List.length_map, sizeLine_eq]
    have := hrs.1
    omega
  · obtain ⟨r, h1, e⟩ := List.mem_map.mp hd
    subst e
    rw [rowOf_ok]
    exact de_call G36 ⟨r, rfl, hrs.2 r h1, rfl⟩ hr (da_cons (de_var 1 rfl) da_nil)
theorem ok_log_text {f : Addr} {fd : FuncData} (F : FnP K "log_text" (top 39) f fd) (T : Tx mg) (G7 : Hs P w K mg base 6 "tupled" ["thing"] (F7 5)) (G37 : Hs P w K mg base 6 "row_text" ["row"] F37) : FnOk P w K mg base CX0 7 f fd ["log"] (spF (F38 true)) := by
  refine fn_ok F sc39 (fun ds d ⟨x, rs, h, _⟩ => by rw [h]; rfl) fun cdv A outer s H E hr ds d hF => ?_
  obtain ⟨x, rs, rfl, hx, ht, hrs, rfl⟩ := hF
  show PSs _ _ (tS [some x, none] _ _)
  refine ds_ret (de_join (ys := rs.map (rowT true)) (Or.inl rfl) (rows_fit hrs) (de_gstr T.feed) (de_of (LcOk.pe (lk_N (N0 := N39) (sc0 := defScope (top 39)) 1 (ds := rs.map (rowD true)) (f := fun d => .str (rowOf true d)) sc39.nd (by decide +kernel) ?_ (di_tup (de_of (de_call G7 ⟨x, rfl, hx, rfl⟩ hr (da_cons (de_var 0 rfl) da_nil)) ht)) (fun d hd s H C cl fp => ?_)) rfl sc39.nd) (by rw [rows_map]))) rfl
  · rw [List.length_map, sizeLine_eq]
    have := hrs.1
    omega
  · obtain ⟨r, h1, e⟩ := List.mem_map.mp hd
    subst e
    rw [rowOf_ok]
    exact de_call G37 ⟨r, rfl, hrs.2 r h1, rfl⟩ hr (da_cons (de_var 1 rfl) da_nil)
/-! ### authors_text -/
abbrev N40 : List Str := ["authors", "some", "field", "author"]
theorem sc40 : FnScope N40 ["authors"] (defScope (top 40)) := ⟨rfl, rfl, rfl, by decide +kernel, rfl, by decide +kernel, by decide +kernel⟩
def autD (p : Str × Option Int) : PyData := .tuple [.str p.1, optI p.2]
def autT (p : Str × Option Int) : Str := p.1 ++ ":" ++ (match p.2 with
  | some i => txI i
  | none => "-")
def autOf : PyData → Str
  | .tuple [.str z, .int i] => autT (z, some i)
  | .tuple [.str z, .none] => autT (z, none)
  | _ => Str.empty
def authT (ps : List (Str × Option Int)) : Str := joinedS (ps.map autT) " "
def okP (p : Str × Option Int) : Prop := p.1.length ≤ 10 ∧ ∀ i, p.2 = some i → 0 ≤ i ∧ i ≤ 999
abbrev F40 : List PyData → PyData → Prop := fun ds d => ∃ (x : PyData) (ps : List (Str × Option Int)), ds = [x] ∧ okD 5 x ∧ tupN 5 x = .tuple (ps.map autD) ∧ (ps.length ≤ 10 ∧ ∀ p ∈ ps, okP p) ∧ d = .str (authT ps)
theorem autOf_ok (p : Str × Option Int) : autOf (autD p) = autT p := by
  obtain ⟨z, o⟩ := p
  cases o <;> rfl
theorem autT_len {p : Str × Option Int} (h : okP p) : (autT p).length ≤ 30 := by
  obtain ⟨z, o⟩ := p
  unfold autT
  cases o with
  | none =>
    simp only [PySem.Str.length_append]
    have h0 : z.length ≤ 10 := h.1
    have : (":" : Str).length = 1 := rfl
    have : ("-" : Str).length = 1 := rfl
    omega
  | some i =>
    simp only [PySem.Str.length_append]
    have h0 : z.length ≤ 10 := h.1
    have : (":" : Str).length = 1 := rfl
    have := len_txI (h.2 i rfl)
    omega
theorem ok_authors_text {f : Addr} {fd : FuncData} (F : FnP K "authors_text" (top 40) f fd) (T : Tx mg) (G7 : Hs P w K mg base 6 "tupled" ["thing"] (F7 5)) (G35 : Hs P w K mg base 6 "joined" ["words", "gap"] F35) : FnOk P w K mg base CX0 7 f fd ["authors"] (spF F40) := by
  refine fn_ok F sc40 (fun ds d ⟨x, rs, h, _⟩ => by rw [h]; rfl) fun cdv A outer s H E hr ds d hF => ?_
  obtain ⟨x, ps, rfl, hx, ht, ⟨hl, hp⟩, rfl⟩ := hF
  show PSs _ _ (tS [some x, none, none, none] _ _)
  refine ds_setLc (d := .list ((ps.map autT).map .str)) 1 (LcOk.of (lk_P (N0 := N40) (sc0 := defScope (top 40)) 2 3 (ds := ps.map autD) (f := fun d => .str (autOf d)) rfl sc40.nd (by decide +kernel) ?_ (di_tup (de_of (de_call G7 ⟨x, rfl, hx, rfl⟩ hr (da_cons (de_var 0 rfl) da_nil)) ht)) (fun d hd => ?_) (fun d1 d2 hd s H C cl fp => ?_)) ?_) ?_ rfl sc40.nd
  · rw [List.length_map, sizeLine_eq]
    omega
  · obtain ⟨p, h1, e⟩ := List.mem_map.mp hd
    exact ⟨_, _, e.symm⟩
  · obtain ⟨p, h1, e⟩ := List.mem_map.mp hd
    have hpp := hp p h1
    obtain ⟨z, o⟩ := p
    have a1 := add_fits (b := ":") hpp.1 (show (":" : Str).length ≤ 1 by decide) (by decide)
    cases o with
    | none =>
      cases e
      have a2 := add_fits (b := "-") a1.2 (show ("-" : Str).length ≤ 1 by decide) (by decide)
      exact de_bin op_add_str (od_addS a2.1) (de_bin op_add_str (od_addS a1.1) (de_var 2 rfl) (de_gstr T.colon)) (de_if (p := true) (d2 := .none) (dt_cmp op_isN od_isN (de_var 3 rfl) de_non rfl) (fun _ => de_gstr T.dash) (fun h => nomatch h))
    | some i =>
      cases e
      have a2 := add_fits a1.2 (len_txI (hpp.2 i rfl)) (by decide)
      exact de_bin op_add_str (od_addS a2.1) (de_bin op_add_str (od_addS a1.1) (de_var 2 rfl) (de_gstr T.colon)) (de_if (p := false) (d1 := .none) (dt_cmp op_isN od_isN (de_var 3 rfl) de_non rfl) (fun h => nomatch h) (fun _ => de_strI T.str (log_ok (hpp.2 i rfl)) (de_var 3 rfl)))
  · rw [List.map_map, List.map_map]
    congr 1
    exact List.map_congr_left fun p _ => by
      show PyData.str (autOf (autD p)) = .str (autT p)
      rw [autOf_ok]
  · refine ds_ret (de_call G35 ⟨ps.map autT, " ", rfl, ⟨by rw [List.length_map]; omega, fun z hz => ?_, by decide⟩, rfl⟩ hr (da_cons (de_var 1 rfl) (da_cons (de_gstr T.blank) da_nil))) rfl
    obtain ⟨p, h1, e⟩ := List.mem_map.mp hz
    subst e
    have := autT_len (hp p h1)
    omega
end
end Sv
/-! part G9 -/
set_option Elab.async false
set_option linter.all false
set_option maxRecDepth 100000
set_option maxHeartbeats 4000000
namespace Sv
open PySem PySem.Spec PyProof.Rows L2
section
variable {P : Program} {w : World} {K : PySem.W.Frag} {mg : Str → Option Value} {base : Heap}
/-! ### _law_nr_in -/
abbrev N64 : List Str := ["_law_word", "_law_sign"]
theorem sc64 : FnScope N64 ["_law_word"] (defScope (top 64)) := ⟨rfl, rfl, rfl, by decide +kernel, rfl, by decide +kernel, by decide +kernel⟩
abbrev F64 : List PyData → PyData → Prop := fun ds d => ∃ z : Str, ds = [.str z] ∧ okS z ∧ d = optI (numS z)
theorem nil_list : SeqAt.shaped (.list []) = true := by decide +kernel
theorem nil_tup : SeqAt.shaped (.tuple []) = true := by decide +kernel
/-- the signs of z of which p tells no good, told as a list -/
theorem filt_strs (z : Str) (g : Nat → Bool) : ((signsD z).filter fun d => !g (signOf d)).map (fun d => d) = ((z.cps.toList.filter fun c => !g c).map fun c => (⟨#[c]⟩ : Str)).map .str := by
  rw [List.map_id'', signs_filter z fun c => !g c, List.map_map]
  · rfl
  · intro d; rfl
theorem filt_ok {z : Str} (h : PyData.strOk z = true) (g : Nat → Bool) : ∀ y ∈ (z.cps.toList.filter fun c => !g c).map fun c => (⟨#[c]⟩ : Str), PyData.strOk y = true := fun y hy => by
  obtain ⟨c, hc, e⟩ := List.mem_map.mp hy
  subst e
  refine strOk_iff.mpr fun c' hc' => ?_
  have : c' = c := by simpa using hc'
  rw [this]
  exact strOk_iff.mp h c (List.mem_filter.mp hc).1
theorem filt_nil (z : Str) (g : Nat → Bool) : (!PyData.eqv (.list (((z.cps.toList.filter fun c => !g c).map fun c => (⟨#[c]⟩ : Str)).map .str)) (.list [])) = !z.cps.toList.all g := by
  have e := eqv_strs ((z.cps.toList.filter fun c => !g c).map fun c => (⟨#[c]⟩ : Str)) []
  show (!PyData.eqvAll _ []) = _
  rw [show ([] : List PyData) = ([] : List Str).map .str from rfl, e]
  congr 1
  rw [Bool.eq_iff_iff, decide_eq_true_eq, List.map_eq_nil_iff, List.filter_eq_nil_iff, List.all_eq_true]
  constructor
  · intro h c hc
    have := h c hc
    simpa using this
  · intro h c hc
    have := h c hc
    simpa using this
/-- [x for x in word if not ..] != [] -/
theorem dt_filt {X : Cx} {r : Rho} {N0 : List Str} {sc0 scope : Scope} {z : Str} {i : Nat} {x : Str} {px p1 p2 p3 p4 : Pos} {iter t : Expr} {g : Nat → Bool} (hc : X.calm = true) (hN : X.N.Nodup) (hu : X.A.units + 64 < cLine) (hz : okS z) (ok : blkC N0 sc0 scope [(x, i)] = true) (hi : PE X iter (tD r (.str z))) (hil : i < r.length)
    (ht : ∀ c ∈ z.cps.toList, ∀ (s : Shared) (H : Hp) (C : Addr) (cl : List (Str × Addr)) (fp : List Addr), PT (X.blk s H scope (compEnvC scope cl C X.env) fp) t (tT ((wipeD r [i]).set i (some (.str ⟨#[c]⟩))) (!g c)))
    (e1 : X.N = N0 := by rfl) (e2 : X.env.scope = sc0 := by rfl) (hx : scope.names.lookup x = some .local := by rfl) (hxi : N0[i]? = some x := by rfl) (hs : ∀ x, foldedSetIterable iter X.env x = pure x := by intro _; rfl)
    (hv : ∀ (s : Shared) (H : Hp) (C : Addr) (cl : List (Str × Addr)) (fp : List Addr), Vis (X.blk s H scope (compEnvC scope cl C X.env) fp).env.scope x := by intro _ _ _ _ _; exact Or.inl rfl) (hdb : (x == ("__debug__" : Str)) = false := by decide) (hcd : (x == ("__classdict__" : Str)) = false := by decide) :
    PT X (.Compare (.ListComp (.Name x p1) [⟨.Name x px, iter, [t], 0⟩] scope p2) [.NotEq] [.List [] p3] p4) (tT r (!z.cps.toList.all g)) := by
  rw [← filt_nil]
  refine dt_cmp (op_neD hu) (od_neD (shaped_strs (filt_ok hz.2 g)).1 nil_list) (de_of (LcOk.pe (lk_IfN i (N0 := N0) (sc0 := sc0) (p := fun d => !g (signOf d)) (f := fun d => d) hN ok (by rw [signs_length]; exact lim_lt hz.1) (di_str hi) (fun d hd s H C cl fp => ?_) (fun d hd _ s H C cl fp => ?_) e1 e2 hx hxi hs) hc hN) (by rw [filt_strs])) (de_lst da_nil (Nat.zero_le _)) (nomark _)
  · obtain ⟨c, hc', e⟩ := mem_signs hd
    subst e
    exact ht c hc' s H C cl fp
  · refine de_var i ?_ (by show X.N[i]? = some x; rw [e1]; exact hxi) (hv s H C cl fp) hdb hcd
    rw [List.getElem?_set_self]
    have : (wipeD r [i]).length = r.length := by simp [wipeD]
    rw [this]
    exact hil
theorem ok_nr_in {f : Addr} {fd : FuncData} (F : FnP K "_law_nr_in" (top 64) f fd) (T : Tx mg) : FnOk P w K mg base CX0 1 f fd ["_law_word"] (spF F64) := by
  refine fn_ok F sc64 (fun ds d ⟨z, h, _⟩ => by rw [h]; rfl) fun cdv A outer s H E hr ds d hF => ?_
  obtain ⟨z, rfl, hz, rfl⟩ := hF
  have hz' := lim_lt hz.1
  have hz2 := lim_le hz.1
  show PSs _ _ (tS [some (.str z), none] _ _)
  refine ds_ifR (PW.pt (dw_or (dt_cmp op_lt od_lt (de_lenS T.len hz2 (de_var 0 rfl)) de_int (nomark _)) (fun _ => dw_or (dt_cmp op_gt od_gt (de_lenS T.len hz2 (de_var 0 rfl)) de_int (nomark _)) (fun _ => dw_or1 (dt_filt (N0 := N64) (sc0 := defScope (top 64)) (i := 1) (g := digitC) rfl sc64.nd (room_units hr) hz (by decide +kernel) (de_var 0 rfl) (Nat.le_of_ble_eq_true rfl)
      (fun c _ s H C cl fp => dt_cmp op_notIn_sign od_ninC (de_var 1 rfl) de_str rfl)))))) (fun h => ds_ret de_non ?_) (fun h => ?_)
  · unfold numS
    rw [if_neg]
    · rfl
    · rintro ⟨⟨a, b⟩, c⟩
      rw [c] at h
      simp at h
      omega
  · have hl : (1 ≤ z.length ∧ z.length ≤ 3) ∧ z.cps.toList.all digitC = true := by
      rw [Bool.or_eq_false_iff, Bool.or_eq_false_iff, decide_eq_false_iff_not, decide_eq_false_iff_not, Bool.not_eq_false'] at h
      exact ⟨by omega, h.2.2⟩
    obtain ⟨hl, hd⟩ := hl
    obtain ⟨c, c1, c2⟩ := atI0 (xs := z.cps.toList) (fun q => by
      have := len_list z
      rw [q] at this
      simp at this
      omega)
    obtain ⟨v1, v2⟩ := val_of hl.1 hl.2 hd
    refine ds_ret (de_if (PW.pt (dw_or (dt_cmp op_eq od_eqS (de_var 0 rfl) de_str (nomark _)) (fun h => dw_or1 (dt_cmp op_ne od_neS (de_ixS (c := c) hz2 c1 (de_var 0 rfl) de_int) de_str (nomark _)))))
        (fun h => de_intS T.int v1 (by omega) (de_var 0 rfl)) (fun h => de_non)) ?_
    have e0 : numS z = if (z = "0" ∨ z.cps.toList[0]? ≠ some 48) then some (valS z) else none := if_pos ⟨hl, hd⟩
    rw [e0, c2]
    by_cases e : z = "0"
    · rw [if_pos (Or.inl e)]
      simp [e, optI]
    · by_cases e2 : c = 48
      · rw [if_neg (show ¬ (z = "0" ∨ some c ≠ some 48) by simp [e, e2])]
        simp [e, e2, optI, str1_zero]
      · rw [if_pos (show z = "0" ∨ some c ≠ some 48 from Or.inr (by simp [e2]))]
        simp [e, e2, optI, str1_zero]
/-! ### _law_are_names -/
abbrev N62 : List Str := ["_law_matter", "_law_own", "_law_sign"]
theorem sc62 : FnScope N62 ["_law_matter"] (defScope (top 62)) := ⟨rfl, rfl, rfl, by decide +kernel, rfl, by decide +kernel, by decide +kernel⟩
abbrev F62 : List PyData → PyData → Prop := fun ds d => ∃ (ns : List Str), ds = [namesD ns] ∧ (ns ≠ [] ∧ ns.length ≤ 3001 ∧ ∀ z ∈ ns, okS z) ∧ d = .bool (namesB ns)
theorem letter_le (c : Nat) : ((!decide ((⟨#[c]⟩ : Str).cps.toList < (("a" : Str)).cps.toList)) && !decide ((("z" : Str)).cps.toList < (⟨#[c]⟩ : Str).cps.toList)) = letterC c := by
  rw [Bool.eq_iff_iff, letterC_iff, show (("a" : Str)).cps.toList = [97] by decide +kernel, show (("z" : Str)).cps.toList = [122] by decide +kernel, show (⟨#[c]⟩ : Str).cps.toList = [c] from rfl]
  simp only [Bool.and_eq_true, Bool.not_eq_true', decide_eq_false_iff_not, List.cons_lt_cons_iff, List.not_lt_nil, and_false, or_false]
  omega
theorem name_bad (z : Str) : (!(decide ((1 : Int) ≤ (z.length : Nat)) && decide (((z.length : Nat) : Int) ≤ 8)) || !z.cps.toList.all letterC) = !nameB z := by
  unfold nameB
  have e1 : decide ((1 : Int) ≤ (z.length : Nat)) = decide (1 ≤ z.length) := by
    rw [decide_eq_decide]; omega
  have e2 : decide (((z.length : Nat) : Int) ≤ 8) = decide (z.length ≤ 8) := by
    rw [decide_eq_decide]; omega
  rw [e1, e2]
  cases decide (1 ≤ z.length) <;> cases decide (z.length ≤ 8) <;> cases z.cps.toList.all letterC <;> rfl
theorem ok_are_names {f : Addr} {fd : FuncData} (F : FnP K "_law_are_names" (top 62) f fd) (T : Tx mg) : FnOk P w K mg base CX0 1 f fd ["_law_matter"] (spF F62) := by
  refine fn_ok F sc62 (fun ds d ⟨z, h, _⟩ => by rw [h]; rfl) fun cdv A outer s H E hr ds d hF => ?_
  obtain ⟨ns, rfl, ⟨hne, hl, hz⟩, rfl⟩ := hF
  have sh := shaped_strs (ns := ns) fun z hz' => (hz z hz').2
  have e0 : PyData.eqv (namesD ns) (.tuple []) = false := by
    have q := eqv_strs ns []
    show PyData.eqvAll (ns.map .str) [] = false
    rw [show ([] : List PyData) = ([] : List Str).map .str from rfl, q]
    exact decide_eq_false hne
  show PSs _ _ (tS [some (namesD ns), none, none] _ _)
  refine ds_ifR (p := false) (dt_of (PW.pt (dw_or (dt_not (dt_val (de_isi (t := "tuple") (k := true) T.isinstance T.tuple (by decide +kernel) rfl (de_var 0 rfl)))) (fun _ => dw_or1 (dt_cmp (op_eqD (room_units hr)) (od_eqD sh.2 nil_tup) (de_var 0 rfl) (de_tup da_nil (Nat.zero_le _)) (nomark _))))) (by
    have q : PyData.eqv (PyData.tuple (ns.map .str)) (.tuple []) = false := e0
    rw [q]; rfl)) (fun h => nomatch h) fun _ => ?_
  refine ds_for (ds := ns.map .str) (u := fun d => [some (namesD ns), some d, none]) (p := fun d => nameB (strOfD d)) (ws := [1]) ?_ rfl (di_tup (de_var 0 rfl)) (pg_name (i := 1) sc62.nd rfl (Or.inl rfl)) (fun d hd => gd_name) (fun d hd B H σ E => E.drop 1) (fun d hd => ?_) (fun hall => ?_)
  · exact PassesOwn.never
  · obtain ⟨z, hm, e⟩ := List.mem_map.mp hd
    subst e
    have hz' := lim_lt (hz z hm).1
    have hz2 := lim_le (hz z hm).1
    refine ds_ifR (p := !nameB z) (dt_of (PW.pt (dw_or (dt_not (dt_val (de_isi (t := "str") (k := true) T.isinstance T.str (by decide +kernel) rfl (de_var 1 rfl)))) (fun _ => dw_or (dt_not (dt_chain op_le op_le od_le od_le de_int (de_lenS T.len hz2 (de_var 1 rfl)) de_int)) (fun _ => dw_or1 (dt_filt (N0 := N62) (sc0 := defScope (top 62)) (i := 2) (g := letterC) rfl sc62.nd (room_units hr) (hz z hm) (by decide +kernel) (de_var 1 rfl) (Nat.le_of_ble_eq_true rfl)
      (fun c _ s H C cl fp => dt_of (dt_not (dt_chain op_le_str op_le_str od_leS od_leS de_str (de_var 2 rfl) de_str)) (by rw [letter_le]))))))) (by rw [← name_bad]; rfl)) (fun h => ds_ret de_bl ⟨?_, ?_⟩) (fun h => ds_nil ⟨?_, rfl⟩)
    · show nameB z = false
      simpa using h
    · have hb : nameB z = false := by simpa using h
      unfold namesB
      have : ns.all nameB = false := by
        rw [List.all_eq_false]
        exact ⟨z, hm, by rw [hb]; decide⟩
      rw [this]
      rfl
    · show nameB z = true
      simpa using h
  · have ha : ns.all nameB = true := by
      rw [List.all_eq_true]
      intro z hz'
      exact hall (.str z) (List.mem_map.mpr ⟨z, hz', rfl⟩)
    have sc : SeqAt.shaped (.list ((canS ns).map .str)) = true := (shaped_strs fun z hz' => (hz z (mem_canS.mp hz')).2).1
    refine ds_ret (de_cmp (op_eqD (room_units hr)) (od_eqD sh.1 sc) (de_lstT T.list (de_var 0 rfl)) (de_sortSet rfl T.sorted T.set (Or.inr rfl) (by omega) (de_var 0 rfl)) (nomark _)) ?_
    have q := eqv_strs ns (canS ns)
    show PyData.bool (PyData.eqvAll (ns.map .str) ((canS ns).map .str)) = _
    rw [q, canS_eq]
    unfold namesB
    rw [ha]
    rfl
end
end Sv
/-! part D11 -/
set_option Elab.async false
set_option linter.all false
set_option maxRecDepth 100000
set_option maxHeartbeats 4000000
namespace Sv
open PySem PySem.Spec PyProof.Rows L2
def ansPairs : List PyData := [.tuple [.str "yes", .bool true], .tuple [.str "no", .bool false], .tuple [.str "?", .none]]
def ansKvs : List (Key × V) := [(.inr "yes", .bl true), (.inr "no", .bl false), (.inr "?", .non)]
theorem ans_val {z : Str} {a : Option Bool} (h : ansS z = some a) : valV (mergeK [] ansKvs) (.inr z) = some (ansV a) := by
  have e : mergeK [] ansKvs = ansKvs := by rfl
  rw [e]
  unfold ansS at h
  by_cases h1 : z = "yes"
  · rw [if_pos h1] at h
    cases h
    rw [h1]
    rfl
  · rw [if_neg h1] at h
    by_cases h2 : z = "no"
    · rw [if_pos h2] at h
      cases h
      rw [h2]
      rfl
    · rw [if_neg h2] at h
      by_cases h3 : z = "?"
      · rw [if_pos h3] at h
        cases h
        rw [h3]
        rfl
      · rw [if_neg h3] at h
        cases h
theorem pairs_inv {B : List Addr} {H : Hp} {K : PySem.W.Frag} {xs : List V} (rs : Rps B H xs ansPairs) : ∃ ps : List Addr, xs = ps.map V.ref ∧ Paired (fun p (kv : Key × V) => SqT K H p [kV kv.1, kv.2]) ps ansKvs := by
  cases rs with
  | cons r1 rs => cases rs with
    | cons r2 rs => cases rs with
      | cons r3 rs =>
        cases rs
        obtain ⟨p1, x1, e1, h1, _, s1⟩ := r1.tup_inv
        obtain ⟨p2, x2, e2, h2, _, s2⟩ := r2.tup_inv
        obtain ⟨p3, x3, e3, h3, _, s3⟩ := r3.tup_inv
        obtain ⟨a1, b1, f1, q1, w1⟩ := s1.two_inv
        obtain ⟨a2, b2, f2, q2, w2⟩ := s2.two_inv
        obtain ⟨a3, b3, f3, q3, w3⟩ := s3.two_inv
        subst e1 e2 e3 f1 f2 f3
        cases q1
        cases w1
        cases q2
        cases w2
        cases q3
        cases w3
        exact ⟨[p1, p2, p3], rfl, .cons (.inl h1) (.cons (.inl h2) (.cons (.inl h3) .nil))⟩
section
variable {X : Cx} {r : Rho} {e i : Expr} {pp p2 pos : Pos} {z : Str} {a : Option Bool}
theorem de_dictQ (hc : X.calm = true) (hu : X.A.units + 64 < cLine) (hm : X.mg "dict" = none) (ha : ansS z = some a) (he : PE X e (tD r (.list ansPairs))) (hi : PE X i (tD r (.str z))) (hg : Gl X "dict" := by rfl) (hst : starEach [e] X.env = (false, eval e X.env) :: starEach [] X.env := by rfl) (hs : NoSl i := by exact fun _ _ => rfl) :
    PE X (.Subscript (.Call (.Name "dict" pp) [e] [] p2) i pos) (tD r (ansD a)) := by
  refine (pe_dget (by omega) (pe_callTy (call_dictP hc) hg hm (by decide +kernel) (pa_cons he pa_nil hst) (by decide) (by decide) hst (by rfl)) hi hs).wkS fun σ H Q ⟨B, D, E, k⟩ => ⟨B, D, E, fun v H1 s1 rv => ?_⟩
  obtain ⟨p, xs, e1, h1, n1, s⟩ := rv.list_inv
  subst e1
  obtain ⟨ps, e2, pr⟩ := pairs_inv (K := X.K) s
  subst e2
  refine ⟨p, ps, ansKvs, rfl, .inl h1, pr, fun d hd => ⟨B, (D.same s1).same (same_new hd), (E.same s1).same (same_new hd), fun w H2 s2 rw_ => ?_⟩⟩
  cases rw_
  refine ⟨d, ansV a, rfl, ?_, k _ H2 (s1.trans ((same_new hd).trans s2)) (ansV_rp a)⟩
  have hd2 : H2 d = some (.dK (mergeK [] ansKvs)) := s2 _ _ upd_same
  exact .inl ⟨_, .inr z, .inl hd2, rfl, (ans_val ha).symm⟩
end
end Sv
/-! part G10 -/
set_option Elab.async false
set_option linter.all false
set_option maxRecDepth 100000
set_option maxHeartbeats 4000000
namespace Sv
open PySem PySem.Spec PyProof.Rows L2
section
variable {P : Program} {w : World} {K : PySem.W.Frag} {mg : Str → Option Value} {base : Heap}
theorem okN_split {z : Str} (h : okS z) : Txt.split z "," ≠ [] ∧ (Txt.split z ",").length ≤ 3001 ∧ ∀ p ∈ Txt.split z ",", okS p := by
  obtain ⟨h1, h2, h3⟩ := cutS_ok (y := ",") (by decide +kernel) (by decide +kernel) h.1
  exact ⟨h3, h2, okS_split (by decide +kernel) (by decide +kernel) h⟩
/-! ### _law_names_in -/
abbrev N65 : List Str := ["_law_word", "_law_found"]
theorem sc65 : FnScope N65 ["_law_word"] (defScope (top 65)) := ⟨rfl, rfl, rfl, by decide +kernel, rfl, by decide +kernel, by decide +kernel⟩
def namesO (z : Str) : PyData := if namesB (Txt.split z ",") = true then namesD (Txt.split z ",") else .none
abbrev F65 : List PyData → PyData → Prop := fun ds d => ∃ z : Str, ds = [.str z] ∧ okS z ∧ d = namesO z
theorem ok_names_in {f : Addr} {fd : FuncData} (F : FnP K "_law_names_in" (top 65) f fd) (T : Tx mg) (G62 : Hs P w K mg base 1 "_law_are_names" ["_law_matter"] F62) : FnOk P w K mg base CX0 2 f fd ["_law_word"] (spF F65) := by
  refine fn_ok F sc65 (fun ds d ⟨z, h, _⟩ => by rw [h]; rfl) fun cdv A outer s H E hr ds d hF => ?_
  obtain ⟨z, rfl, hz, rfl⟩ := hF
  show PSs _ _ (tS [some (.str z), none] _ _)
  refine ds_set 1 (de_split rfl (len2_lim hz.1) (de_var 0 rfl) de_str) ?_ sc65.nd
  exact ds_ret (de_if (dt_val (de_call G62 ⟨Txt.split z ",", rfl, okN_split hz, rfl⟩ hr (da_cons (de_tupL T.tuple (de_var 1 rfl)) da_nil))) (fun _ => de_tupL T.tuple (de_var 1 rfl)) (fun _ => de_non)) rfl
/-! ### _law_line_in -/
abbrev N66 : List Str := ["_law_line_here", "_law_is_row", "_law_words", "_law_beats_so", "_law_names_so", "_law_spans_so", "_law_parts_so", "_law_answer_so", "_law_own"]
theorem sc66 : FnScope N66 ["_law_line_here", "_law_is_row"] (defScope (top 66)) := ⟨rfl, rfl, rfl, by decide +kernel, rfl, by decide +kernel, by decide +kernel⟩
abbrev F66 : List PyData → PyData → Prop := fun ds d => ∃ (z : Str) (b : Bool), ds = [.str z, .bool b] ∧ okS z ∧ d = lineD b z
theorem ans_in (w : Str) : (([PyData.str "yes", .str "no", .str "?"]).any fun y => PyData.eqv y (.str w)) = (ansS w).isSome := by
  simp only [List.any_cons, List.any_nil, PyData.eqv]
  unfold ansS
  by_cases h1 : w = "yes"
  · rw [if_pos h1, h1]; rfl
  · rw [if_neg h1]
    by_cases h2 : w = "no"
    · rw [if_pos h2, h2]; rfl
    · rw [if_neg h2]
      by_cases h3 : w = "?"
      · rw [if_pos h3, h3]; rfl
      · rw [if_neg h3]
        have e1 : (("yes" : Str) == w) = false := beq_eq_false_iff_ne.mpr (Ne.symm h1)
        have e2 : (("no" : Str) == w) = false := beq_eq_false_iff_ne.mpr (Ne.symm h2)
        have e3 : (("?" : Str) == w) = false := beq_eq_false_iff_ne.mpr (Ne.symm h3)
        rw [e1, e2, e3]
        rfl
/-- the law's second test: bs the parts of the beats, os those of the first, q the last -/
def badL (b : Bool) (bs os qs : List Str) (n : PyData) : Bool := (!decide (((bs.length : Nat) : Int) = 2)) || (decide (1 + iB b < ((os.length : Nat) : Int)) || ((((os ++ qs).map fo).any fun y => PyData.eqv y .none) || isN n))
theorem namesO_n (z : Str) : isN (namesO z) = !namesB (Txt.split z ",") := by
  unfold namesO
  cases namesB (Txt.split z ",") <;> rfl
/-- no row where the second test is met -/
theorem line_bad {b : Bool} {w0 w1 p : Str} {qs : List Str} (hb : Txt.split w0 "-" = p :: qs) (h : badL b (p :: qs) (Txt.split p "/") qs (namesO w1) = true) : (spanS b w0 = none) ∨ namesB (Txt.split w1 ",") = false ∨ ∃ x, spanS b w0 = some (x, x, x) ∧ False := by
  unfold badL at h
  rw [namesO_n] at h
  by_cases hn : namesB (Txt.split w1 ",") = false
  · exact .inr (.inl hn)
  · left
    have hn' : namesB (Txt.split w1 ",") = true := by simpa using hn
    rw [hn'] at h
    by_cases hl : (p :: qs).length = 2
    · obtain ⟨q, eq⟩ : ∃ q, qs = [q] := by
        rcases qs with _ | ⟨q, _ | ⟨q2, r⟩⟩ <;> simp at hl
        exact ⟨q, rfl⟩
      subst eq
      unfold spanS
      rw [hb]
      dsimp only
      revert h
      generalize Txt.split p "/" = os
      intro h
      rcases os with _ | ⟨o, _ | ⟨o2, _ | ⟨o3, r⟩⟩⟩
      · rfl
      · dsimp only
        simp only [List.cons_append, List.nil_append, List.map_cons, List.map_nil, List.any_cons, List.any_nil, eqv_fo, List.length_cons, List.length_nil] at h
        cases e1 : numS o <;> cases e2 : numS q <;> first | rfl | (exfalso; rw [e1, e2] at h; cases b <;> simp [iB] at h)
      · dsimp only
        cases b with
        | false => rfl
        | true =>
          simp only [List.cons_append, List.nil_append, List.map_cons, List.map_nil, List.any_cons, List.any_nil, eqv_fo, List.length_cons, List.length_nil] at h
          rw [if_pos rfl]
          cases e1 : numS o with
          | none => rfl
          | some x => cases e2 : numS o2 with
            | none => rfl
            | some y => cases e3 : numS q with
              | none => rfl
              | some u => exfalso; rw [e1, e2, e3] at h; simp [iB] at h
      · rfl
    · unfold spanS
      rw [hb]
      rcases qs with _ | ⟨q, _ | ⟨q2, r⟩⟩
      · rfl
      · exact absurd rfl hl
      · rfl
/-- what the numbers are where it is not met -/
theorem line_good {b : Bool} {w0 w1 p : Str} {qs : List Str} (hb : Txt.split w0 "-" = p :: qs) (h2 : Txt.split p "/" ≠ []) (h : badL b (p :: qs) (Txt.split p "/") qs (namesO w1) = false) :
    namesB (Txt.split w1 ",") = true ∧ ((∃ x u, (Txt.split p "/" ++ qs).map fo = [.int x, .int u] ∧ spanS b w0 = some (x, x, u)) ∨
      (b = true ∧ ∃ x y u, (Txt.split p "/" ++ qs).map fo = [.int x, .int y, .int u] ∧ spanS b w0 = if x = y then none else some (x, y, u))) := by
  unfold badL at h
  rw [namesO_n] at h
  have hn : namesB (Txt.split w1 ",") = true := by
    cases q : namesB (Txt.split w1 ",") with
    | true => rfl
    | false => rw [q] at h; simp at h
  rw [hn] at h
  refine ⟨hn, ?_⟩
  have hl : (p :: qs).length = 2 := by
    have : decide ((((p :: qs).length : Nat) : Int) = 2) = true := by
      cases q : decide ((((p :: qs).length : Nat) : Int) = 2) with
      | true => rfl
      | false => rw [q] at h; simp at h
    rw [decide_eq_true_eq] at this
    omega
  obtain ⟨q, eq⟩ : ∃ q, qs = [q] := by
    rcases qs with _ | ⟨q, _ | ⟨q2, r⟩⟩ <;> simp at hl
    exact ⟨q, rfl⟩
  subst eq
  unfold spanS
  rw [hb]
  dsimp only
  revert h
  generalize Txt.split p "/" = os at h2
  intro h
  rcases os with _ | ⟨o, _ | ⟨o2, _ | ⟨o3, r⟩⟩⟩
  · exact absurd rfl h2
  · left
    dsimp only
    simp only [List.cons_append, List.nil_append, List.map_cons, List.map_nil, List.any_cons, List.any_nil, eqv_fo, List.length_cons, List.length_nil] at h
    cases e1 : numS o with
    | none => exfalso; simp [e1] at h
    | some x => cases e2 : numS q with
      | none => exfalso; simp [e1, e2] at h
      | some u => exact ⟨x, u, by simp [fo, e1, e2, optI], rfl⟩
  · right
    dsimp only
    simp only [List.cons_append, List.nil_append, List.map_cons, List.map_nil, List.any_cons, List.any_nil, eqv_fo, List.length_cons, List.length_nil] at h
    cases b with
    | false => exfalso; simp [iB] at h
    | true =>
      refine ⟨rfl, ?_⟩
      rw [if_pos rfl]
      cases e1 : numS o with
      | none => exfalso; simp [e1] at h
      | some x => cases e2 : numS o2 with
        | none => exfalso; simp [e1, e2] at h
        | some y => cases e3 : numS q with
          | none => exfalso; simp [e1, e2, e3] at h
          | some u => exact ⟨x, y, u, by simp [fo, e1, e2, e3, optI], rfl⟩
  · exfalso
    simp only [List.length_cons] at h
    cases b <;> simp [iB] at h <;> omega
end
end Sv
/-! part G11 -/
set_option Elab.async false
set_option linter.all false
set_option maxRecDepth 100000
set_option maxHeartbeats 4000000
namespace Sv
open PySem PySem.Spec PyProof.Rows L2
section
variable {P : Program} {w : World} {K : PySem.W.Frag} {mg : Str → Option Value} {base : Heap}
def mkO (b : Bool) (w0 w1 : Str) (a : Option Bool) : Option Row := match spanS b w0 with
  | some (x, y, u) => if (x ≤ y ∧ y < u) ∧ namesB (Txt.split w1 ",") = true then some ⟨x, y, u, Txt.split w1 ",", a⟩ else none
  | none => none
theorem lineO_0 {z w0 w1 : Str} (h : Txt.split z " " = [w0, w1]) : lineO false z = mkO false w0 w1 none := by
  unfold lineO mkO
  rw [h]
  dsimp only
  cases e : spanS false w0 with
  | none => rfl
  | some t =>
    obtain ⟨x, y, u⟩ := t
    have := (span_nn e).2.2 rfl
    subst this
    dsimp only
    by_cases c : y < u ∧ namesB (Txt.split w1 ",") = true
    · rw [if_pos c, if_pos ⟨⟨Int.le_refl _, c.1⟩, c.2⟩]
    · rw [if_neg c, if_neg fun q => c ⟨q.1.2, q.2⟩]
theorem lineO_1 {z w0 w1 w2 : Str} {a : Option Bool} (h : Txt.split z " " = [w0, w1, w2]) (ha : ansS w2 = some a) : lineO true z = mkO true w0 w1 a := by
  unfold lineO mkO
  rw [h]
  dsimp only
  rw [ha]
  cases e : spanS true w0 with
  | none => rfl
  | some t => rfl
theorem lineO_1n {z w0 w1 w2 : Str} (h : Txt.split z " " = [w0, w1, w2]) (ha : ansS w2 = none) : lineD true z = .none := by
  unfold lineD lineO
  rw [h]
  dsimp only
  rw [ha]
theorem atI_0 {α : Type} (x : α) (xs : List α) : L2.atI (x :: xs) 0 = some x := by
  unfold L2.atI
  rw [show ixN (x :: xs).length 0 = some 0 from by unfold ixN; simp]
  rfl
theorem dt_cmp2 {X : Cx} {r : Rho} {a c : Expr} {pos : Pos} {i j : Int} (ha : PE X a (tD r (.int i))) (hc : PE X c (tD r (.int j))) : PT X (.Compare a [.GtE] [c] pos) (tT r (decide (j ≤ i))) := dt_cmp op_ge od_ge ha hc (nomark _)
theorem ok_line_in {f : Addr} {fd : FuncData} (F : FnP K "_law_line_in" (top 66) f fd) (T : Tx mg) (G64 : Hs P w K mg base 2 "_law_nr_in" ["_law_word"] F64) (G65 : Hs P w K mg base 2 "_law_names_in" ["_law_word"] F65) : FnOk P w K mg base CX0 3 f fd ["_law_line_here", "_law_is_row"] (spF F66) := by
  refine fn_ok F sc66 (fun ds d ⟨z, b, h, _⟩ => by rw [h]; rfl) fun cdv A outer s H E hr ds d hF => ?_
  obtain ⟨z, b, rfl, hz, rfl⟩ := hF
  have cont : ∀ (ws : List Str) (w0 w1 w2 : Str) (a : Option Bool), L2.atI (ws.map PyData.str) 0 = some (.str w0) → L2.atI (ws.map PyData.str) 1 = some (.str w1) → (b = true → L2.atI (ws.map PyData.str) 2 = some (.str w2) ∧ ansS w2 = some a) → okS w0 → okS w1 →
      PSs (cxOf CX0 P w K mg base N66 "_law_line_in" (defScope (top 66)) f cdv A outer s H E).nox ((defBody (top 66)).drop 2) (tS [some (.str z), some (.bool b), some (.list (ws.map .str)), none, none, none, none, none, none] (fun _ => outD b (mkO b w0 w1 a) = .none) (fun v => v = outD b (mkO b w0 w1 a))) := fun ws w0 w1 w2 a h0 h1 h2 l0 l1 => by
    have lb := okS_split (y := "-") (by decide +kernel) (by decide +kernel) l0
    obtain ⟨c1, c2, c3⟩ := cutS_ok (y := "-") (by decide +kernel) (by decide +kernel) l0.1
    obtain ⟨p, qs, eb⟩ : ∃ p qs, Txt.split w0 "-" = p :: qs := by
      cases e : Txt.split w0 "-" with
      | nil => exact absurd e c3
      | cons p qs => exact ⟨p, qs, rfl⟩
    have lp : okS p := lb p (by rw [eb]; exact List.mem_cons_self)
    have lo := okS_split (y := "/") (by decide +kernel) (by decide +kernel) lp
    obtain ⟨d1, d2, d3⟩ := cutS_ok (y := "/") (by decide +kernel) (by decide +kernel) lp.1
    have lq : ∀ q ∈ qs, okS q := fun q hq => lb q (by rw [eb]; exact List.mem_cons_of_mem _ hq)
    have nq : qs.length ≤ 3001 := by
      rw [eb] at c2
      exact Nat.le_of_succ_le c2
    refine ds_par (d1 := .list ((p :: qs).map .str)) (d2 := namesO w1) 3 4 rfl (da_cons (de_of (de_split rfl (len2_lim l0.1) (de_ixL h0 (de_var 2 rfl) de_int) de_str) (by rw [eb])) (da_cons (de_call G65 ⟨w1, rfl, l1, rfl⟩ hr (da_cons (de_ixL h1 (de_var 2 rfl) de_int) da_nil)) da_nil)) ?_ sc66.nd
    refine ds_set 5 (de_split (z := p) rfl (len2_lim lp.1) (de_ixL (d := .str p) (atI_0 _ _) (de_var 3 rfl) de_int) de_str) ?_ sc66.nd
    have tl1 : cutD ((p :: qs).map PyData.str) (some 1) none = qs.map .str := cut1 _ _
    refine ds_setLc (d := .list ((Txt.split p "/" ++ qs).map fo)) 6 (LcOk.of (lk_N (N0 := N66) (sc0 := defScope (top 66)) 8 (ds := (Txt.split p "/").map .str ++ qs.map .str) (f := fun d => fo (strOfD d)) sc66.nd (by decide +kernel) ?_ (di_list (de_catL ?_ (de_var 5 rfl) (de_of (de_slL (ds := (p :: qs).map .str) (de_var 3 rfl) (dp_some de_int) dp_none) (by rw [tl1])))) (fun d hd s H C cl fp => ?_)) ?_) ?_ rfl sc66.nd
    · simp only [List.length_append, List.length_map]
      rw [sizeLine_eq]
      omega
    · simp only [List.length_map]
      rw [sizeLine_eq]
      omega
    · have hd2 : ∃ o : Str, d = .str o ∧ okS o := by
        rcases List.mem_append.mp hd with hd | hd
        · obtain ⟨o, ho, e⟩ := List.mem_map.mp hd
          exact ⟨o, e.symm, lo o ho⟩
        · obtain ⟨o, ho, e⟩ := List.mem_map.mp hd
          exact ⟨o, e.symm, lq o ho⟩
      obtain ⟨o, rfl, lo'⟩ := hd2
      exact de_call G64 ⟨o, rfl, lo', rfl⟩ hr (da_cons (de_var 8 rfl) da_nil)
    · rw [List.map_append, List.map_append, List.map_map, List.map_map]
      rfl
    show PSs _ _ (tS [some (.str z), some (.bool b), some (.list (ws.map .str)), some (.list ((p :: qs).map .str)), some (namesO w1), some (.list ((Txt.split p "/").map .str)), some (.list ((Txt.split p "/" ++ qs).map fo)), none, none] _ _)
    refine ds_ifR (p := badL b (p :: qs) (Txt.split p "/") qs (namesO w1)) (PW.pt (dw_or (p := !decide ((((p :: qs).length : Nat) : Int) = 2)) (dt_of (dt_cmp op_ne od_neI (de_lenL T.len (de_var 3 rfl)) de_int (nomark _)) (by rw [List.length_map])) (fun _ => dw_or (p := decide (1 + iB b < (((Txt.split p "/").length : Nat) : Int))) (dt_of (dt_cmp op_gt od_gt (de_lenL T.len (de_var 5 rfl)) (de_bin op_add od_add de_int (de_intB T.int (de_var 1 rfl))) (nomark _)) (by rw [List.length_map]; rfl))
      (fun _ => dw_or (dt_cmp op_in_seq (od_inL rfl (flat_fo _)) de_non (de_var 6 rfl) rfl) (fun _ => dw_or1 (dt_cmp op_isN od_isN (de_var 4 rfl) de_non rfl)))))) (fun h => ds_ret de_non ?_) (fun h => ?_)
    · rcases line_bad eb h with q | q | ⟨_, _, q⟩
      · unfold mkO; rw [q]; rfl
      · unfold mkO
        cases spanS b w0 with
        | none => rfl
        | some t =>
          obtain ⟨x, y, u⟩ := t
          dsimp only
          rw [if_neg (fun z => by rw [q] at z; exact nomatch z.2)]
          rfl
      · exact q.elim
    · obtain ⟨hn, hc⟩ := line_good eb d3 h
      have en : namesO w1 = namesD (Txt.split w1 ",") := if_pos hn
      rw [en]
      rcases hc with ⟨x, u, e1, e2⟩ | ⟨hb, x, y, u, e1, e2⟩
      · rw [e1]
        have eM : mkO b w0 w1 a = if x < u then some ⟨x, x, u, Txt.split w1 ",", a⟩ else none := by
          unfold mkO
          rw [e2]
          dsimp only
          by_cases c : x < u
          · rw [if_pos c, if_pos ⟨⟨Int.le_refl _, c⟩, hn⟩]
          · rw [if_neg c, if_neg fun q => c q.1.2]
        rw [eM]
        refine ds_ifR (p := decide (u ≤ x)) (PW.pt (dw_or (p := false) (dt_of (PW.pt (dw_and (p := false) (q := false) (dt_of (dt_cmp op_eq od_eqI (de_lenL T.len (de_var 6 rfl)) de_int (nomark _)) rfl) (fun h => nomatch h))) rfl) (fun _ => dw_or1 (dt_cmp2 (de_ixL (d := .int x) rfl (de_var 6 rfl) (de_neg de_int)) (de_ixL (d := .int u) rfl (de_var 6 rfl) (de_neg de_int)))))) (fun h => ds_ret de_non ?_) (fun h => ?_)
        · rw [decide_eq_true_eq] at h
          rw [if_neg (by omega)]
          rfl
        · rw [decide_eq_false_iff_not] at h
          rw [if_pos (by omega)]
          cases b with
          | false =>
            exact ds_ifR (dt_not (dt_val (de_var 1 rfl))) (fun _ => ds_ret (de_tup (da_cons (de_ixL (d := .int x) rfl (de_var 6 rfl) de_int) (da_cons (de_ixL (d := .int u) rfl (de_var 6 rfl) de_int) (da_cons (de_var 4 rfl) da_nil))) (sz_ok rfl)) rfl) (fun h => nomatch h)
          | true =>
            obtain ⟨h3, h4⟩ := h2 rfl
            refine ds_ifR (dt_not (dt_val (de_var 1 rfl))) (fun h => nomatch h) (fun _ => ds_set 7 (de_dictQ rfl (room_units hr) T.dict h4 (de_lst (da_cons (de_tup (da_cons de_str (da_cons de_bl da_nil)) (sz_ok rfl)) (da_cons (de_tup (da_cons de_str (da_cons de_bl da_nil)) (sz_ok rfl)) (da_cons (de_tup (da_cons de_str (da_cons de_non da_nil)) (sz_ok rfl)) da_nil))) (sz_ok rfl)) (de_ixL h3 (de_var 2 rfl) de_int)) ?_ sc66.nd)
            exact ds_ret (de_tup (da_cons (de_ixL (d := .int x) rfl (de_var 6 rfl) de_int) (da_cons (de_ixL (d := .int x) rfl (de_var 6 rfl) (de_neg de_int)) (da_cons (de_ixL (d := .int u) rfl (de_var 6 rfl) (de_neg de_int)) (da_cons (de_var 4 rfl) (da_cons (de_var 7 rfl) da_nil))))) (sz_ok rfl)) rfl
      · subst hb
        rw [e1]
        obtain ⟨h3, h4⟩ := h2 rfl
        have eM : mkO true w0 w1 a = if x < y ∧ y < u then some ⟨x, y, u, Txt.split w1 ",", a⟩ else none := by
          unfold mkO
          rw [e2]
          by_cases c0 : x = y
          · rw [if_pos c0, if_neg (by omega)]
          · rw [if_neg c0]
            dsimp only
            by_cases c : x < y ∧ y < u
            · rw [if_pos c, if_pos ⟨⟨by omega, c.2⟩, hn⟩]
            · rw [if_neg c, if_neg fun q => c ⟨by have := q.1.1; omega, q.1.2⟩]
        rw [eM]
        refine ds_ifR (p := decide (y ≤ x) || decide (u ≤ y)) (PW.pt (dw_or (p := decide (y ≤ x)) (dt_of (PW.pt (dw_and (p := true) (q := decide (y ≤ x)) (dt_of (dt_cmp op_eq od_eqI (de_lenL T.len (de_var 6 rfl)) de_int (nomark _)) rfl) (fun _ => dw_and1 (dt_cmp2 (de_ixL (d := .int x) rfl (de_var 6 rfl) de_int) (de_ixL (d := .int y) rfl (de_var 6 rfl) de_int))))) rfl) (fun _ => dw_or1 (dt_cmp2 (de_ixL (d := .int y) rfl (de_var 6 rfl) (de_neg de_int)) (de_ixL (d := .int u) rfl (de_var 6 rfl) (de_neg de_int)))))) (fun h => ds_ret de_non ?_) (fun h => ?_)
        · rw [Bool.or_eq_true, decide_eq_true_eq, decide_eq_true_eq] at h
          rw [if_neg (by omega)]
          rfl
        · rw [Bool.or_eq_false_iff, decide_eq_false_iff_not, decide_eq_false_iff_not] at h
          rw [if_pos (by omega)]
          refine ds_ifR (dt_not (dt_val (de_var 1 rfl))) (fun h => nomatch h) (fun _ => ds_set 7 (de_dictQ rfl (room_units hr) T.dict h4 (de_lst (da_cons (de_tup (da_cons de_str (da_cons de_bl da_nil)) (sz_ok rfl)) (da_cons (de_tup (da_cons de_str (da_cons de_bl da_nil)) (sz_ok rfl)) (da_cons (de_tup (da_cons de_str (da_cons de_non da_nil)) (sz_ok rfl)) da_nil))) (sz_ok rfl)) (de_ixL h3 (de_var 2 rfl) de_int)) ?_ sc66.nd)
          exact ds_ret (de_tup (da_cons (de_ixL (d := .int x) rfl (de_var 6 rfl) de_int) (da_cons (de_ixL (d := .int y) rfl (de_var 6 rfl) (de_neg de_int)) (da_cons (de_ixL (d := .int u) rfl (de_var 6 rfl) (de_neg de_int)) (da_cons (de_var 4 rfl) (da_cons (de_var 7 rfl) da_nil))))) (sz_ok rfl)) rfl
  show PSs _ _ (tS [some (.str z), some (.bool b), none, none, none, none, none, none, none] _ _)
  obtain ⟨c1, c2, c3⟩ := cutS_ok (y := " ") (by decide +kernel) (by decide +kernel) hz.1
  have lw := okS_split (y := " ") (by decide +kernel) (by decide +kernel) hz
  refine ds_set 2 (de_split rfl (len2_lim hz.1) (de_var 0 rfl) de_str) ?_ sc66.nd
  cases b with
  | false =>
    by_cases hp : (Txt.split z " ").length = 2
    · obtain ⟨w0, w1, e1⟩ : ∃ p q, Txt.split z " " = [p, q] := by
        revert hp
        generalize Txt.split z " " = os
        intro hp
        rcases os with _ | ⟨p, _ | ⟨q, _ | ⟨q3, r⟩⟩⟩ <;> simp at hp
        exact ⟨p, q, rfl⟩
      have eD : lineD false z = outD false (mkO false w0 w1 none) := by
        rw [← lineO_0 e1]
        rfl
      rw [eD, e1]
      refine ds_ifR (p := false) (PW.pt (dw_or (p := false) (dt_of (dt_cmp op_ne od_neI (de_lenL T.len (de_var 2 rfl)) (de_bin op_add od_add de_int (de_intB T.int (de_var 1 rfl))) (nomark _)) rfl) (fun _ => dw_or1 (PW.pt (dw_and (p := false) (q := false) (dt_val (de_var 1 rfl)) (fun h => nomatch h)))))) (fun h => nomatch h) (fun _ => ?_)
      exact cont [w0, w1] w0 w1 Str.empty none rfl rfl (fun h => nomatch h) (lw w0 (by rw [e1]; simp)) (lw w1 (by rw [e1]; simp))
    · rw [lineD_no0 hp]
      refine ds_ifR (p := true) (PW.pt (dw_or (p := true) (q := false) (dt_of (dt_cmp op_ne od_neI (de_lenL T.len (de_var 2 rfl)) (de_bin op_add od_add de_int (de_intB T.int (de_var 1 rfl))) (nomark _)) ?_) (fun h => nomatch h))) (fun h => ds_ret de_non rfl) (fun h => nomatch h)
      rw [List.length_map, Bool.not_eq_true', decide_eq_false_iff_not]
      show ¬ (((Txt.split z " ").length : Nat) : Int) = 2 + 0
      omega
  | true =>
    by_cases hp : (Txt.split z " ").length = 3
    · obtain ⟨w0, w1, w2, e1⟩ : ∃ p q r, Txt.split z " " = [p, q, r] := by
        revert hp
        generalize Txt.split z " " = os
        intro hp
        rcases os with _ | ⟨p, _ | ⟨q, _ | ⟨q3, _ | ⟨q4, r⟩⟩⟩⟩ <;> simp at hp
        exact ⟨p, q, q3, rfl⟩
      have cnd : PT (cxOf CX0 P w K mg base N66 "_law_line_in" (defScope (top 66)) f cdv A outer s H E).nox (match (defBody (top 66)).getD 1 (.Pass ⟨0, 0, 0, 0⟩) with
        | .If c _ _ _ => c
        | _ => .Constant .none 0 ⟨0, 0, 0, 0⟩) (tT ([some (.str z), some (.bool true), none, none, none, none, none, none, none].set 2 (some (.list ([w0, w1, w2].map .str)))) (!(ansS w2).isSome)) :=
        PW.pt (dw_or (p := false) (dt_of (dt_cmp op_ne od_neI (de_lenL T.len (de_var 2 rfl)) (de_bin op_add od_add de_int (de_intB T.int (de_var 1 rfl))) (nomark _)) rfl) (fun _ => dw_or1 (PW.pt (dw_and (p := true) (dt_val (de_var 1 rfl)) (fun _ => dw_and1 (dt_of (dt_cmp op_notIn_seq (od_ninT (ds := [.str "yes", .str "no", .str "?"]) rfl rfl) (de_ixL (d := .str w2) rfl (de_var 2 rfl) de_int) (de_tup (da_cons de_str (da_cons de_str (da_cons de_str da_nil))) (sz_ok rfl)) rfl) (by rw [ans_in]; cases (ansS w2).isSome <;> rfl)))))))
      rw [e1]
      cases ea : ansS w2 with
      | none =>
        rw [lineO_1n e1 ea]
        exact ds_ifR (p := true) (dt_of cnd (by rw [ea]; rfl)) (fun h => ds_ret de_non rfl) (fun h => nomatch h)
      | some a =>
        have eD : lineD true z = outD true (mkO true w0 w1 a) := by
          rw [← lineO_1 e1 ea]
          rfl
        rw [eD]
        refine ds_ifR (p := false) (dt_of cnd (by rw [ea]; rfl)) (fun h => nomatch h) (fun _ => ?_)
        exact cont [w0, w1, w2] w0 w1 w2 a rfl rfl (fun _ => ⟨rfl, ea⟩) (lw w0 (by rw [e1]; simp)) (lw w1 (by rw [e1]; simp))
    · rw [lineD_no1 hp]
      refine ds_ifR (p := true) (PW.pt (dw_or (p := true) (q := false) (dt_of (dt_cmp op_ne od_neI (de_lenL T.len (de_var 2 rfl)) (de_bin op_add od_add de_int (de_intB T.int (de_var 1 rfl))) (nomark _)) ?_) (fun h => nomatch h))) (fun h => ds_ret de_non rfl) (fun h => nomatch h)
      rw [List.length_map, Bool.not_eq_true', decide_eq_false_iff_not]
      show ¬ (((Txt.split z " ").length : Nat) : Int) = 2 + 1
      omega
end
end Sv
/-! part Z1 -/
set_option Elab.async false
set_option linter.all false
set_option maxRecDepth 100000
set_option maxHeartbeats 4000000
/-! what is fixed and what is written: triples -/
namespace Sv
open PySem PySem.Spec PyProof.Rows L2
abbrev As := L2.St → Hp → Prop
def tZ (A N : As) (R : V → Hp → Prop) : TS := fun Dn σ H => A σ H ∧ (∀ σ' H', N σ' H' → Dn.nx σ' H') ∧ ∀ v H', R v H' → Dn.rt v H'
def tZE (A : As) (R : L2.St → V → Hp → Prop) : TE := fun σ H Q => A σ H ∧ ∀ v H', R σ v H' → Q v H'
def tZT (A : As) (R : L2.St → Bool → Hp → Prop) : TT := fun σ H Q => A σ H ∧ ∀ c H', R σ c H' → Q c H'
def tZA (A : As) (R : L2.St → List V → Hp → Prop) : TA := fun σ H Q => A σ H ∧ ∀ v H', R σ v H' → Q v H'
/-- B: what may be written, sl: slots that stand for such, m: what is known of it -/
def AD (B : List Addr) (sl : List (Nat × Addr)) (m : Hp → Prop) (r : Rho) : As := fun σ H => Dom B H ∧ Er B H r σ ∧ (∀ q ∈ sl, σ[q.1]? = some (some (.ref q.2))) ∧ m H
/-- known still when only F is written -/
def Kp (F : List Addr) (m : Hp → Prop) : Prop := ∀ H H', Keep F H H' → m H → m H'
theorem Kp.same {F : List Addr} {m : Hp → Prop} (k : Kp F m) {H H' : Hp} (s : Same H H') (h : m H) : m H' := k H H' (Keep.of s) h
theorem Kp.less {F G : List Addr} {m : Hp → Prop} (k : Kp F m) (h : ∀ b ∈ G, b ∈ F) : Kp G m := fun H H' s => k H H' (s.sub h)
theorem Kp.and {F : List Addr} {m n : Hp → Prop} (k : Kp F m) (l : Kp F n) : Kp F (fun H => m H ∧ n H) := fun H H' s h => ⟨k H H' s h.1, l H H' s h.2⟩
theorem Kp.tt {F : List Addr} : Kp F (fun _ => True) := fun _ _ _ _ => trivial
theorem Kp.ex {F : List Addr} {α : Type} {m : α → Hp → Prop} (k : ∀ a, Kp F (m a)) : Kp F (fun H => ∃ a, m a H) := fun H H' s ⟨a, h⟩ => ⟨a, k a H H' s h⟩
/-- what stood at the start -/
theorem Kp.base {F G : List Addr} {H0 : Hp} (h : ∀ b ∈ G, b ∈ F ∨ H0 b = none) : Kp G (Keep F H0) := fun H H' s k a o n e => s a o (fun z => by
  rcases h a z with q | q
  · exact n q
  · rw [q] at e; cases e) (k a o n e)
/-- a list that is written -/
def ML (B : List Addr) (p : Addr) (ds : List PyData) (H : Hp) : Prop := ∃ vs, H p = some (.lst vs) ∧ Rps B H vs ds
theorem Kp.ml {F B : List Addr} {p : Addr} {ds : List PyData} (h : p ∉ F) (hF : ∀ b ∈ F, b ∈ B) : Kp F (ML B p ds) := fun H H' s ⟨vs, e, r⟩ => ⟨vs, s p _ h e, r.keep (s.sub hF)⟩
theorem ML.new {B : List Addr} {p q : Addr} {ds : List PyData} {H : Hp} (hq : H q = none) (h : ML B p ds H) : ML (q :: B) p ds H := by
  obtain ⟨vs, e, r⟩ := h
  exact ⟨vs, e, r.new hq⟩
theorem ML.less {B : List Addr} {p q : Addr} {ds : List PyData} {H : Hp} (h : ML (q :: B) p ds H) : ML B p ds H := by
  obtain ⟨vs, e, r⟩ := h
  exact ⟨vs, e, r.less⟩
section
variable {X : Cx} {r : Rho} {d d1 d2 : PyData} {e c : Expr} {es : List Expr} {ds : List PyData} {pos : Pos} {p : Bool} {B : List Addr} {sl : List (Nat × Addr)} {m : Hp → Prop} {A N M : As} {R : V → Hp → Prop} {st : Stmt} {rest b : List Stmt}
theorem AD.same {σ : L2.St} {H H' : Hp} (h : AD B sl m r σ H) (s : Same H H') (hm : Kp [] m) : AD B sl m r σ H' := ⟨h.1.same s, h.2.1.same s, h.2.2.1, hm.same s h.2.2.2⟩
theorem z_imp {A' N' : As} {R' : V → Hp → Prop} (h : PSs X b (tZ A N R)) (hA : ∀ σ H, A' σ H → A σ H) (hN : ∀ σ H, N σ H → N' σ H) (hR : ∀ v H, R v H → R' v H) : PSs X b (tZ A' N' R') := h.wkS fun Dn σ H ⟨a, k, k2⟩ => ⟨hA σ H a, fun σ' H' n => k σ' H' (hN σ' H' n), fun v H' q => k2 v H' (hR v H' q)⟩
theorem z_pre {A' : As} (h : PSs X b (tZ A N R)) (hA : ∀ σ H, A' σ H → A σ H) : PSs X b (tZ A' N R) := z_imp h hA (fun _ _ h => h) fun _ _ h => h
theorem z_ex {κ : Type} {C : κ → Prop} {A : κ → As} (h : ∀ k, C k → PSs X b (tZ (A k) N R)) : PSs X b (tZ (fun σ H => ∃ k, C k ∧ A k σ H) N R) := (PSs.ex h).wkS fun Dn σ H ⟨⟨k, c, a⟩, k1, k2⟩ => ⟨k, c, a, k1, k2⟩
theorem z_nil (h : ∀ σ H, A σ H → N σ H) : PSs X [] (tZ A N R) := pss_nil.wkS fun Dn σ H ⟨a, k, _⟩ => k σ H (h σ H a)
/-- a data reading as a triple -/
theorem z_D (h : PE X e (tD r d)) (hm : Kp [] m) : PE X e (tZE (AD B sl m r) fun σ v H' => AD B sl m r σ H' ∧ Rp B H' v d) := h.wkS fun σ H Q ⟨a, k⟩ => ⟨B, a.1, a.2.1, fun v H' s rv => k v H' ⟨a.same s hm, rv⟩⟩
theorem z_T (h : PT X e (tT r p)) (hm : Kp [] m) : PT X e (tZT (AD B sl m r) fun σ c H' => c = p ∧ AD B sl m r σ H') := h.wkS fun σ H Q ⟨a, k⟩ => ⟨B, a.1, a.2.1, fun H' s => k p H' ⟨rfl, a.same s hm⟩⟩
theorem z_ret {R1 : L2.St → V → Hp → Prop} (he : PE X e (tZE A R1)) (h : ∀ σ v H', R1 σ v H' → R v H') : PSs X (.Return (some e) pos :: rest) (tZ A N R) := by
  refine ⟨fun pins s σ H Dn I q => ?_⟩
  obtain ⟨a, _, k⟩ := q
  refine wpAny_execs_cons (thn ((ps_ret he).run pins s σ H { Dn with nx := fun _ _ => False } I ⟨a, fun v H' q => k v H' (h σ v H' q)⟩) fun f s1 z => ?_)
  cases f with
  | next =>
    obtain ⟨_, _, _, z⟩ := z
    exact z.elim
  | ret v => exact z
  | brk => exact z
  | cont => exact z
theorem z_set (i : Nat) {x : Str} {pos' : Pos} {R1 : L2.St → V → Hp → Prop} (he : PE X e (tZE A R1)) (hr : PSs X rest (tZ (fun σ H => ∃ σ0 v, R1 σ0 v H ∧ σ = σ0.set i (some v)) N R)) (hN : X.N.Nodup) (hi : X.N[i]? = some x := by rfl) (hx : Loc X.env.scope x := by first | exact Or.inl rfl | exact Or.inr rfl) (hs : swapsWith e (some (.Name x pos')) pos.line X.env = pure false := by rfl)
    (hf : X.fn x = true ∨ X.env.scope.names.lookup x = some .local := by first | exact .inl rfl | exact .inr rfl) : PSs X (.Assign [.Name x pos'] e pos :: rest) (tZ A N R) :=
  (pss_cons (ps_set hN hi hx he hs hf) hr).wkS fun Dn σ H ⟨a, k, k2⟩ => ⟨a, fun v H1 q => ⟨⟨σ, v, q, rfl⟩, k, k2⟩⟩
/-- name = e, told by data -/
theorem AD.set {σ : L2.St} {H : Hp} {v : V} {i : Nat} (h : AD B sl m r σ H) (rv : Rp B H v d) (hsl : sl.all (fun q => !decide (q.1 = i)) = true) : AD B sl m (r.set i (some d)) (σ.set i (some v)) H := ⟨h.1, h.2.1.set rv i, fun q hq => by
  rw [List.getElem?_set_ne]
  · exact h.2.2.1 q hq
  · have z := List.all_eq_true.mp hsl q hq
    rw [Bool.not_eq_true', decide_eq_false_iff_not] at z
    exact fun e => z e.symm, h.2.2.2⟩
theorem z_setD (i : Nat) {x : Str} {pos' : Pos} (hm : Kp [] m) (he : PE X e (tD r d)) (hr : PSs X rest (tZ (AD B sl m (r.set i (some d))) N R)) (hN : X.N.Nodup) (hsl : sl.all (fun q => !decide (q.1 = i)) = true := by rfl) (hi : X.N[i]? = some x := by rfl) (hx : Loc X.env.scope x := by first | exact Or.inl rfl | exact Or.inr rfl) (hs : swapsWith e (some (.Name x pos')) pos.line X.env = pure false := by rfl)
    (hf : X.fn x = true ∨ X.env.scope.names.lookup x = some .local := by first | exact .inl rfl | exact .inr rfl) : PSs X (.Assign [.Name x pos'] e pos :: rest) (tZ (AD B sl m r) N R) :=
  z_set i (z_D he hm) (z_pre hr fun σ H ⟨σ0, v, ⟨a, rv⟩, e⟩ => by subst e; exact a.set rv hsl) hN hi hx hs hf
theorem z_if {A1 Bk : List Stmt} {R1 : L2.St → Bool → Hp → Prop} (hc : PT X c (tZT A R1)) (ha : PSs X A1 (tZ (fun σ H => R1 σ true H) M R)) (hb : PSs X Bk (tZ (fun σ H => R1 σ false H) M R)) (hr : PSs X rest (tZ M N R)) : PSs X (.If c A1 Bk pos :: rest) (tZ A N R) := by
  refine ⟨fun pins s σ H Dn I q => ?_⟩
  obtain ⟨a, k, k2⟩ := q
  refine wpAny_execs_cons (wpAny_If (thn (hc.run pins s σ H (fun c H1 => R1 σ c H1) I ⟨a, fun c H' q => q⟩) fun b s1 ⟨H1, I1, e1⟩ => ?_))
  have fin : ∀ {A1 : List Stmt} {A' : As}, PSs X A1 (tZ A' M R) → A' σ H1 → wpAny (model X.prog X.w) X.A (execs A1 X.env) (fun f s₁ => match f with
      | .next => wpAny (model X.prog X.w) X.A (execs rest X.env) (SP X pins Dn) X.xe s₁
      | f => SP X pins Dn f s₁) X.xe s1 := fun {A1 A'} h a' => by
    refine thn (h.run pins s1 σ H1 { Dn with nx := M } I1 ⟨a', fun _ _ n => n, k2⟩) fun f s2 z => ?_
    cases f with
    | next =>
      obtain ⟨σ', H', I', n⟩ := z
      exact hr.run pins s2 σ' H' Dn I' ⟨n, k, k2⟩
    | ret v => exact z
    | brk => exact z
    | cont => exact z
  cases b with
  | true => exact fin ha e1
  | false => exact fin hb e1
/-- a test by data -/
theorem z_ifD {A1 Bk : List Stmt} (hm : Kp [] m) (hc : PT X c (tT r p)) (ha : p = true → PSs X A1 (tZ (AD B sl m r) M R)) (hb : p = false → PSs X Bk (tZ (AD B sl m r) M R)) (hr : PSs X rest (tZ M N R)) : PSs X (.If c A1 Bk pos :: rest) (tZ (AD B sl m r) N R) := by
  refine z_if (z_T hc hm) ?_ ?_ hr
  · cases p with
    | true => exact z_pre (ha rfl) fun σ H h => h.2
    | false => exact ⟨fun pins s σ H Dn I q => nomatch q.1.1⟩
  · cases p with
    | false => exact z_pre (hb rfl) fun σ H h => h.2
    | true => exact ⟨fun pins s σ H Dn I q => nomatch q.1.1⟩
/-- a test that returns, or not -/
theorem z_ifR {A1 : List Stmt} (hm : Kp [] m) (hc : PT X c (tT r p)) (ha : p = true → PSs X A1 (tZ (AD B sl m r) (fun _ _ => False) R)) (hr : p = false → PSs X rest (tZ (AD B sl m r) N R)) : PSs X (.If c A1 [] pos :: rest) (tZ (AD B sl m r) N R) := by
  cases p with
  | true => exact z_ifD (M := fun _ _ => False) hm hc ha (fun h => nomatch h) ⟨fun pins s σ H Dn I q => q.1.elim⟩
  | false => exact z_ifD (M := AD B sl m r) hm hc (fun h => nomatch h) (fun _ => z_nil fun _ _ h => h) (hr rfl)
/-! ### lists that are written -/
/-- e gives a new list -/
def tF (r : Rho) (ds : List PyData) : TE := fun σ H Q => ∃ B, Dom B H ∧ Er B H r σ ∧ ∀ p vs H', Same H H' → H' p = none → Rps B H' vs ds → Q (.ref p) (upd H' p (.lst vs))
theorem df_lst (h : PA X es (tA r ds)) (hz : ds.length ≤ sizeLine) : PE X (.List es pos) (tF r ds) := (pe_lst h).wkS fun σ H Q ⟨B, D, E, k⟩ =>
  ⟨B, D, E, fun vs H1 s1 rs => ⟨by rw [rs.length]; exact hz, fun p hp => k p vs H1 s1 hp rs⟩⟩
theorem df_cat {a c : Expr} {es1 es2 : List PyData} (h : es1.length + es2.length ≤ sizeLine) (ha : PE X a (tD r (.list es1))) (hb : PE X c (tD r (.list es2))) : PE X (.BinOp a .Add c pos) (tF r (es1 ++ es2)) := (pe_op op_cat ha hb).wkS fun σ H Q ⟨B, D, E, k⟩ =>
  ⟨B, D, E, fun x H1 s1 rx => ⟨B, D.same s1, E.same s1, fun y H2 s2 ry => by
    obtain ⟨p, xs, e, h1, n, s⟩ := (rx.same s2).list_inv1
    subst e
    obtain ⟨p2, ys, e, h2, n2, s'⟩ := ry.list_inv1
    subst e
    exact ⟨p, p2, xs, ys, rfl, rfl, h1, h2, by rw [s.length, s'.length]; exact h, fun l hl => k l (xs ++ ys) H2 (s1.trans s2) hl (s.append s')⟩⟩⟩
/-- name = a new list: written from here on -/
theorem AD.mk {σ : L2.St} {H : Hp} {q : Addr} {vs : List V} {i : Nat} (a : AD B sl m r σ H) (hm : Kp [] m) (hq : H q = none) (rs : Rps B H vs ds) (hsl : sl.all (fun q => !decide (q.1 = i)) = true) (hi : i < r.length) : AD (q :: B) ((i, q) :: sl) (fun H => ML (q :: B) q ds H ∧ m H) (r.set i none) (σ.set i (some (.ref q))) (upd H q (.lst vs)) := by
  have s := same_new (o := .lst vs) hq
  refine ⟨(a.1.same s).cons upd_same, ((a.2.1.new hq).same s).unset i _, fun q' hq' => ?_, ⟨⟨vs, upd_same, (rs.new hq).same s⟩, hm.same s a.2.2.2⟩⟩
  rcases List.mem_cons.mp hq' with e | hq'
  · subst e
    exact List.getElem?_set_self (er_len' a.2.1 hi)
  · rw [List.getElem?_set_ne]
    · exact a.2.2.1 q' hq'
    · have z := List.all_eq_true.mp hsl q' hq'
      rw [Bool.not_eq_true', decide_eq_false_iff_not] at z
      exact fun e => z e.symm
where er_len' {B : List Addr} {H : Hp} {r : Rho} {σ : L2.St} (E : Er B H r σ) {i : Nat} (h : i < r.length) : i < σ.length := by rw [E.length]; exact h
theorem z_new (i : Nat) {x : Str} {pos' : Pos} (G : Addr → Prop) (hG : ∀ H q, Dom B H → m H → H q = none → G q) (hm : Kp [] m) (he : PE X e (tF r ds)) (hr : ∀ q, G q → q ∉ B → PSs X rest (tZ (AD (q :: B) ((i, q) :: sl) (fun H => ML (q :: B) q ds H ∧ m H) (r.set i none)) N R)) (hil : i < r.length) (hN : X.N.Nodup) (hsl : sl.all (fun q => !decide (q.1 = i)) = true := by rfl) (hi : X.N[i]? = some x := by rfl) (hx : Loc X.env.scope x := by first | exact Or.inl rfl | exact Or.inr rfl) (hs : swapsWith e (some (.Name x pos')) pos.line X.env = pure false := by rfl)
    (hf : X.fn x = true ∨ X.env.scope.names.lookup x = some .local := by first | exact .inl rfl | exact .inr rfl) : PSs X (.Assign [.Name x pos'] e pos :: rest) (tZ (AD B sl m r) N R) := by
  have h2 : PSs X rest (tZ (fun σ H => ∃ q, (G q ∧ q ∉ B) ∧ AD (q :: B) ((i, q) :: sl) (fun H => ML (q :: B) q ds H ∧ m H) (r.set i none) σ H) N R) := z_ex fun q hq => hr q hq.1 hq.2
  exact (pss_cons (ps_set hN hi hx he hs hf) h2).wkS fun Dn σ H ⟨a, k, k2⟩ => ⟨B, a.1, a.2.1, fun q vs H1 s1 hq rs => ⟨⟨q, ⟨hG H1 q (a.1.same s1) (hm.same s1 a.2.2.2) hq, (a.1.same s1).out hq⟩, (a.same s1 hm).mk hm hq rs hsl hil⟩, k, k2⟩⟩
/-- x.append(e) -/
theorem z_app (i : Nat) {q : Addr} {x : Str} {p1 p2 p3 p4 : Pos} (hi : (i, q) ∈ sl) (hq : q ∈ B) (hm : Kp [q] m) (he : PE X e (tD r d)) (hz : ds.length < sizeLine) (hr : PSs X rest (tZ (AD B sl (fun H => ML B q (ds ++ [d]) H ∧ m H) r) N R)) (hN : X.N[i]? = some x := by rfl) (hv : Vis X.env.scope x := by first | exact Or.inl rfl | exact Or.inr (Or.inl rfl) | exact Or.inr (Or.inr rfl)) (hd : (x == ("__debug__" : Str)) = false := by decide) (hcd : (x == ("__classdict__" : Str)) = false := by decide)
    (hbase : attributeBase (.Name x p1) "append" X.env (eval (.Name x p1) X.env) = eval (.Name x p1) X.env := by rfl) (hst : starEach [e] X.env = (false, eval e X.env) :: starEach [] X.env := by rfl)
    (hfew : ((backTo p3 (starEach [e] X.env)).all (fun x => !x.1) && (backToKw p3 (keywordEach [] X.env)).all (fun x => x.1.isSome) && decide ([e].length + ([] : List Keyword).length + (if ([] : List Keyword).isEmpty then 0 else 1) < 30)) = true := by rfl)
    (hline : (p2.endLine == p3.line) = true := by rfl) (hpl : (backTo p3 (starEach [] X.env)).any (·.1) = false := by rfl) (hsw : swapsWith (.Call (.Attribute (.Name x p1) "append" p2) [e] [] p3) none p4.line X.env = pure false := by rfl) :
    PSs X (.Expr (.Call (.Attribute (.Name x p1) "append" p2) [e] [] p3) p4 :: rest) (tZ (AD B sl (fun H => ML B q ds H ∧ m H) r) N R) := by
  refine (pss_cons (ps_expr (pe_bm F.plainAttrs_list F.slot_list_append F.type_list_append mt_append (pe_var hN hv hd hcd) (pa_cons he pa_nil hst) hbase hfew hline hst hpl) hsw) hr).wkS fun Dn σ H ⟨a, k, k2⟩ => ?_
  obtain ⟨D, E, sls, ⟨vs, e1, rs⟩, hm1⟩ := a
  refine ⟨.ref q, sls _ hi, .inl ⟨rfl, vs, .inl (.inl e1)⟩, B, D, E, fun v H1 s1 rv => ?_⟩
  have e2 := s1 _ _ e1
  have rs1 := rs.same s1
  have D1 := D.same s1
  refine ⟨q, vs, v, rfl, rfl, e2, by rw [rs.length]; exact hz, ?_⟩
  have kk : Keep [q] H1 (upd H1 q (.lst (vs ++ [v]))) := fun b o hb e => by
    rw [upd_ne (fun z => hb (by simp [z]))]
    exact e
  have kB : Keep B H1 (upd H1 q (.lst (vs ++ [v]))) := kk.sub fun b hb => by
    rw [List.mem_singleton] at hb
    rw [hb]; exact hq
  exact ⟨⟨D1.upd, (E.same s1).keep kB, sls, ⟨vs ++ [v], upd_same, (rs1.append (Rps.one rv)).keep kB⟩, hm _ _ kk (hm.same s1 hm1)⟩, k, k2⟩
/-- the list is read from here on -/
theorem Er.put {H : Hp} {v : V} (q : Rp B H v d) : ∀ {r : Rho} {s : L2.St} {i : Nat}, Er B H r s → s[i]? = some (some v) → Er B H (r.set i (some d)) s
  | _, _, _, .nil, h => .nil
  | _, _, 0, .no t, h => by
    simp at h
    subst h
    exact .so q t
  | _, _, 0, .so _ t, h => by
    simp at h
    subst h
    exact .so q t
  | _, _, i + 1, .no t, h => .no (Er.put q t (by simpa using h))
  | _, _, i + 1, .so q' t, h => .so q' (Er.put q t (by simpa using h))
theorem z_frz (i : Nat) {q : Addr} (hi : (i, q) ∈ sl) (hq : q ∉ B) (h : PSs X b (tZ (AD B sl m (r.set i (some (.list ds)))) N R)) : PSs X b (tZ (AD (q :: B) sl (fun H => ML (q :: B) q ds H ∧ m H) r) N R) := z_pre h fun σ H ⟨D, E, sls, ⟨vs, e1, rs⟩, hm⟩ =>
  ⟨fun b hb => D b (List.mem_cons_of_mem _ hb), E.less.put (.lst e1 hq rs.less) (sls _ hi), sls, hm⟩
end
end Sv
/-! part Z2 -/
set_option Elab.async false
set_option linter.all false
set_option maxRecDepth 100000
set_option maxHeartbeats 4000000
namespace Sv
open PySem PySem.Spec PyProof.Rows L2
section
variable {X : Cx} {r : Rho} {d d1 d2 : PyData} {e c : Expr} {es : List Expr} {ds : List PyData} {pos : Pos} {p : Bool} {B : List Addr} {sl : List (Nat × Addr)} {m : Hp → Prop} {A N M : As} {R : V → Hp → Prop} {st : Stmt} {rest b : List Stmt}
def tbZ {κ : Type} (B : List Addr) (sl : List (Nat × Addr)) (n : Nat) (C : Nat → κ → Prop) (mm : Nat → κ → Hp → Prop) (u v : Nat → κ → Rho) (fr : Hp → Prop) (R : V → Hp → Prop) : TS := fun Dn σ H => ∃ a : Nat × κ, (a.1 < n ∧ C a.1 a.2) ∧ tZ (AD B sl (fun H => mm a.1 a.2 H ∧ fr H) (v a.1 a.2)) (fun σ H => ∃ k', C (a.1 + 1) k' ∧ AD B sl (fun H => mm (a.1 + 1) k' H ∧ fr H) (u (a.1 + 1) k') σ H) R Dn σ H
/-- a for: the turn i stands at some k of C i -/
theorem z_for {κ : Type} {tg iter : Expr} {body : List Stmt} {g : TG} {ws : List Nat} (C : Nat → κ → Prop) (mm : Nat → κ → Hp → Prop) (u v : Nat → κ → Rho) (k0 : κ) (h0 : C 0 k0) (hp : PassesOwn (model X.prog X.w) X.A X.env X.xe) (hc : X.calm = true) (hm : ∀ i k, Kp [] (mm i k)) (hi : PI X tg iter (tI (u 0 k0) ds)) (hgp : PG X tg g)
    (hg : ∀ i k d, ds[i]? = some d → C i k → GD g (u i k) d (v i k) ws) (hsl : sl.all (fun q => !ws.contains q.1) = true)
    (hb : ∀ (fr : Hp → Prop), Kp B fr → ∀ i k, i < ds.length → C i k → PSs X body (tZ (AD B sl (fun H => mm i k H ∧ fr H) (v i k)) (fun σ H => ∃ k', C (i + 1) k' ∧ AD B sl (fun H => mm (i + 1) k' H ∧ fr H) (u (i + 1) k') σ H) R))
    (hr : ∀ k, C ds.length k → PSs X rest (tZ (AD B sl (mm ds.length k) (u ds.length k)) N R)) (hs : ∀ x, foldedSetIterable iter X.env x = pure x := by intro _; rfl) :
    PSs X (.For tg iter body [] pos :: rest) (tZ (AD B sl (mm 0 k0) (u 0 k0)) N R) := by
  refine ⟨fun pins s σ H Dn I q => ?_⟩
  obtain ⟨⟨D, E, sls, hm0⟩, k, k2⟩ := q
  have hbe : ∀ H1, PSs X body (tbZ B sl ds.length C mm u v (Keep B H1) R) := fun H1 => PSs.ex (C := fun a : Nat × κ => a.1 < ds.length ∧ C a.1 a.2) fun a ha => hb (Keep B H1) (Kp.base fun b hb => .inl hb) a.1 a.2 ha.1 ha.2
  have hbx : PSs X body (fun Dn σ H => ∃ H1, tbZ B sl ds.length C mm u v (Keep B H1) R Dn σ H) := ⟨fun pins s σ H D I ⟨H1, q⟩ => (hbe H1).run pins s σ H D I q⟩
  have hfor := ps_for (pos := pos) hp hc hi hgp hbx hs
  refine wpAny_execs_cons (thn (hfor.run pins s σ H { Dn with nx := fun σ' H' => ∃ k, C ds.length k ∧ AD B sl (mm ds.length k) (u ds.length k) σ' H' } I ⟨B, D, E, fun J H1 s1 gv => ?_⟩) fun f s2 z => ?_)
  · obtain ⟨G, Y, w, hG, hY⟩ := gv.ex
    refine for_it (D := { Dn with nx := fun σ' H' => ∃ k, C ds.length k ∧ AD B sl (mm ds.length k) (u ds.length k) σ' H' }) (g := g) (tb := fun Dn σ H => ∃ H1, tbZ B sl ds.length C mm u v (Keep B H1) R Dn σ H) w (fun i σ2 H2 => ∃ k, C i k ∧ AD B sl (fun H => mm i k H ∧ Keep B H1 H) (u i k) σ2 H2) ⟨k0, h0, D.same s1, E.same s1, sls, (hm 0 k0).same s1 hm0, fun b o _ e => e⟩ (fun i σ2 H2 hi h => ?_) ?_ ?_
    · obtain ⟨k, _, _, _, _, _, kk⟩ := h
      exact hG H2 kk
    · rintro i x σ2 H2 H3 hi ⟨k, ck, D2, E2, sl2, m2, kk⟩ y
      have hd : ds[i]? = some ds[i] := List.getElem?_eq_getElem hi
      obtain ⟨s3, rx⟩ := hY i _ H2 x H3 B hd kk y D2 (fun b hb => hb) (fun b hb => .inl hb)
      refine hg i k _ hd ck B H3 x σ2 _ (D2.same s3) (E2.same s3) rx fun σ3 E3 hσ _ => ?_
      refine ⟨H1, (i, k), ⟨hi, ck⟩, ⟨D2.same s3, E3, fun q hq => ?_, (hm i k).same s3 m2, fun b o n e => s3 b o (kk b o n e)⟩, fun σ' H' n => n, fun v H' q => k2 v H' q⟩
      have z := List.all_eq_true.mp hsl q hq
      rw [hσ q.1 (fun w => by rw [Bool.not_eq_true'] at z; rw [List.contains_iff_mem.mpr w] at z; cases z)]
      exact sl2 q hq
    · rintro σ2 H2 ⟨k, ck, D2, E2, sl2, m2, kk⟩
      exact ⟨k, ck, D2, E2, sl2, m2⟩
  · cases f with
    | next =>
      obtain ⟨σ', H', I', kk, ck, a⟩ := z
      exact (hr kk ck).run pins s2 σ' H' Dn I' ⟨a, k, k2⟩
    | ret v => exact z
    | brk => exact z
    | cont => exact z
/-- weaker slots -/
theorem AD.drop {σ : L2.St} {H : Hp} (i : Nat) (h : AD B sl m r σ H) : AD B sl m (r.set i none) σ H := ⟨h.1, h.2.1.drop i, h.2.2⟩
theorem AD.imp {σ : L2.St} {H : Hp} {n : Hp → Prop} (h : AD B sl m r σ H) (hn : ∀ H, m H → n H) : AD B sl n r σ H := ⟨h.1, h.2.1, h.2.2.1, hn H h.2.2.2⟩
end
section
variable {P : Program} {w : World} {K : PySem.W.Frag} {mg : Str → Option Value} {base : Heap}
/-- a def's promise by data, its body by triples -/
theorem fn_okZ {x : Str} {st : Stmt} {f : Addr} {fd : FuncData} {Nm ps : List Str} {k : Nat} {F : List PyData → PyData → Prop} (hF : FnP K x st f fd) (S : FnScope Nm ps (defScope st)) (len : ∀ ds d, F ds d → ds.length = ps.length)
    (body : ∀ (cdv : Value) (A : Around) (outer : List Env) (s : Shared) (H : Hp) (E : XK), Room k (A.deeper (envOfC x (defScope st) s.heap.objs.size f cdv)) → ∀ ds d, F ds d → ∀ B H0,
      PSs (cxOf CX0 P w K mg base Nm x (defScope st) f cdv A outer s H E).nox (defBody st) (tZ (AD B [] (Keep [] H0) (rho0 Nm ds)) (fun _ _ => False) (fun v H' => Keep [] H0 H' ∧ Rp B H' v d))) : FnOk P w K mg base CX0 (k + 1) f fd ps (spF F) := by
  refine hF.ok S (fun vs H Q E h => ?_) (fun cdv A outer s H vs Q E hr h => ?_)
  · obtain ⟨B, ds, d, D, rs, hf, _⟩ := h
    exact rs.length.trans (len ds d hf)
  · obtain ⟨B, ds, d, D, rs, hf, kk⟩ := h
    refine ⟨_, PSs.nox (body cdv A outer s H E hr ds d hf B H), ⟨D, ?_, (fun q hq => by cases hq), fun b o _ e => e⟩, fun σ' H' e => e.elim, fun v H' q => kk v H' (fun b o e => q.1 b o (by simp) e) q.2⟩
    have e := rs.length
    unfold L2.start rho0
    rw [e]
    exact er_start _ rs
/-! ### _law_sheet_in -/
abbrev N67 : List Str := ["_law_sheet", "_law_is_row", "_law_found", "_law_last_so", "_law_k", "_law_line_here", "_law_row"]
theorem sc67 : FnScope N67 ["_law_sheet", "_law_is_row"] (defScope (top 67)) := ⟨rfl, rfl, rfl, by decide +kernel, rfl, by decide +kernel, by decide +kernel⟩
abbrev F67 : List PyData → PyData → Prop := fun ds d => ∃ (z : Str) (b : Bool), ds = [.str z, .bool b] ∧ okS z ∧ d = sheetD b z
end
end Sv
/-! part X1 -/
set_option Elab.async false
set_option linter.all false
set_option maxRecDepth 100000
set_option maxHeartbeats 4000000
/-! BadLine(number): an own error over ValueError whose __init__ says super().__init__(number). -/
namespace Sv
open PySem PySem.W PySem.Calls PyProof.Rows PySem.HandSPX
abbrev sBl : Stmt := L2.inClass (top 3) 0
/-- what the written part says of BadLine, at C, of its __init__, at fI, of the cell that tells its class, at cc, of the code object, at co -/
structure BlTxt (prog : Program) (K : Frag) (mg : Str → Option Value) (C fI cc co : Addr) : Prop where
  gC : mg "BadLine" = some (.ref C)
  cls : ∃ nm q N bs sn sub ab col dd k0 k1 k2 k3 k5, K.lookup C = some (excClassObj nm q C N bs veTail true sn sub ab col dd k0 k1 k2 k3 k5 "ValueError.__new__")
  sa : findIn K (.ref C) "__setattr__" = some (some (.builtin "object.__setattr__"))
  ga : findIn K (.ref C) "__getattribute__" = some (some (.builtin "BaseException.__getattribute__"))
  gg : findIn K (.ref C) "__getattr__" = some none
  noN : findIn K (.ref C) "number" = some none
  iC : findIn K (.ref C) "__init__" = some (some (.ref fI))
  tC : typeIn K (.ref fI) = some (.type "function")
  kC : keepIn K (.ref C) = true
  exC : subIn K (.ref C) (.type "BaseException") = some true
  veC : subIn K (.ref C) (.type "ValueError") = some true
  meC : mroIn K C (.ref C) = some true
  tyC : typeIn K (.ref C) = some (.type "type")
  hdC : hasDictIn K C = true
  fn : ∃ (oc : Value) (od : Option Addr) (doc pm : Value) (an : Option Addr) (ct : Value) (osl : Array (Option Value)),
    K.lookup fI = some ⟨oc, od, .func (ksFn "__init__" "BadLine.__init__" (L2.defArgs sBl) (L2.defBody sBl) (L2.defScope sBl) .none .none doc pm an (.ref co) ct cc), osl⟩
  code : codeIn K (.ref co) "BadLine.__init__" = true
  codeF : ∃ cl od vs sl file tf, K.lookup co = some ⟨cl, od, .fields vs, sl⟩ ∧ vs[2]? = some (.str file tf) ∧ ((prog.main.file : Str) == file) = true
  cell : ∃ cl cld csl, K.lookup cc = some ⟨cl, cld, .cell (some (.ref C)), csl⟩
  sup : nsIn K mainGlobals "super" = some none
  supI : ks_superIn K C C "__init__" = some (some (.builtin "ValueError.__init__"))
  opq : nsIn K cStatics "thirdparty.any" = some none
  topS : (prog.main.scope.names.lookup ("super" : Str)).isSome = false
/-- what __init__ leaves of a fresh exception at x -/
structure BlEnd (h h' : Heap) (x C dx t1 : Addr) (v : Value) : Prop where
  keep : ∀ b o, b ≠ x → h.get? b = some o → h'.get? b = some o
  obj : h'.get? x = some { cls := .ref C, dict := some dx, data := .fields #[.ref t1, .none, .none, .none, .bool false, .none] }
  dbig : h.objs.size ≤ dx
  dne : dx ≠ x
  ns : h'.Ns1 dx (fun y => if y = "number" then some v else none)
section
variable {prog : Program} {w : World} {A : Around} {E : Value → Shared → Prop} {R : Result → Shared → Prop} {s : Shared} {K : Frag} {mg mb : Str → Option Value} {C fI cc co : Addr}
theorem call_mw {x u t0 : Addr} {rest : List Value} {Q : Value → Shared → Prop} {h : Heap} {g : Array GenState} {d : Drawn} {t : Nat} {os : OsState}
    {nm q : Str} {N : Addr} {bs bm : List Value} {hdct : Bool} {sn : List Str} {sub : List Value} {ab : Bool} {col : Option Bool} {dd : Option Addr} {k0 k1 k2 k3 k5 : Option Value}
    (hC : h.get? C = some (excClassObj nm q C N bs bm hdct sn sub ab col dd k0 k1 k2 k3 k5 "ValueError.__new__")) (he : h.get? x = some (excO C t0)) (hu : h.get? u = some (kxs_mw "ValueError.__init__" x)) (hrest : rest.length ≤ sizeLine)
    (hq : ∀ h' t1, (∀ b o, b ≠ x → h.get? b = some o → h'.get? b = some o) → h'.get? x = some (excO C t1) → Q .none ⟨h', g, d, t, os⟩) :
    wpAny (model prog w) A (call (.ref u) rest) Q E ⟨h, g, d, t, os⟩ := by
  refine wpAny_call (codeAny_of_tree (show wpAny _ A.in1 (callAny (.ref u) ⟨rest, []⟩) _ _ _ from ?_))
  simp only [callAny]
  refine wpAny_bind (wpAny_load (a := u) hu ?_)
  simp only [kxs_mw, show (Value.type "method-wrapper" == Value.type "method" || Value.type "method-wrapper" == Value.type "builtin_function_or_method" || Value.type "method-wrapper" == Value.type "method-wrapper") = true by decide, if_true]
  refine KFB.if_so (by decide) (wpAny_bind (ESX.check_bound F.excBase_ValueError hC he rfl (wpAny_bind (wpAny_pure (wpAny_pure ?_)))))
  refine ⟨Code.quiet_builtin _ (by decide +kernel), codeAny_builtin F.excBase_ValueError.initEntry ?_⟩
  rw [Around.under_plainId F.excBase_ValueError.init.plain _]
  wp_walk
  refine hq _ h.objs.size (fun b o hb z => ?_) ?_
  · rw [Heap.get?_update_other _ _ (Ne.symm hb)]
    exact Heap.get?_push_of_some (a := b) _ z
  · rw [Heap.get?_update_self _ (Heap.get?_push_of_some (a := x) _ he) rfl]
    rfl
abbrev bnds (x : Addr) (v : Value) : List (Str × Value) := [("self", .ref x), ("number", v)]
theorem bl_init (T : BlTxt prog K mg C fI cc co) {base : Heap} {x t0 : Addr} {v : Value} (KB : K.In base) (G : base.Ns mainGlobals mg) (Bn : base.Ns builtinsNs mb) (hB : ∀ x : Str, x ≠ "__name__" → mb x = bootBuiltins x) (kb : ∀ b o, base.get? b = some o → s.heap.get? b = some o) (hlim : s.heap.NoLimit) (hx : s.heap.get? x = some (excO C t0)) (hnx : base.get? x = none) (hroom : A.depth < recursionLimit)
    (hq : ∀ h' tk dx t1, BlEnd s.heap h' x C dx t1 v → R (.ok (.ret .none)) { s with heap := h', toks := tk }) :
    codeAny (model prog w) A (.call (.ref fI) ⟨[.ref x, v], []⟩) R s := by
  obtain ⟨oc, od, doc, pm, an, ct, osl, ho⟩ := T.fn
  obtain ⟨nm, q, N, bs, sn, sub, ab, col, dd, k0, k1, k2, k3, k5, hC⟩ := T.cls
  obtain ⟨cl, cod, cvs, csl, file, tf, hco, hvs, hfile⟩ := T.codeF
  obtain ⟨ccl, cld, ccs, hcc⟩ := T.cell
  have X : K.In s.heap := KB.keeps kb
  have hcl : clsIn K C = some { name := nm, bases := bs, mro := .ref C :: veTail, ns := N, qualname := q, hasDict := true, slotNames := sn, subclasses := sub, abstract := ab, collection := col, hasDel := false } := by unfold clsIn; rw [hC] <;> rfl
  refine ks_codeAny_call_defAt (fd := ksFn "__init__" "BadLine.__init__" (L2.defArgs sBl) (L2.defBody sBl) (L2.defScope sBl) .none .none doc pm an (.ref co) ct cc) (body := L2.defBody sBl) (binds := bnds x v) hroom (X _ _ ho) rfl hlim
    (codeRec_of X T.code) rfl (BindsTo.of_eq (by first | rfl | with_unfolding_all rfl)) (show ∀ x ∈ (L2.defScope sBl).names, x.2 ≠ .cell by decide +kernel) (fun y hy => ?_) (fun h1 hns k1 => ?_) (by rfl) (by rfl) (by rfl)
  · rcases List.mem_cons.mp hy with e | hy
    · subst e
      show (L2.defScope sBl).names.lookup ("self" : Str) = some .local
      decide +kernel
    · rcases List.mem_cons.mp hy with e | hy
      · subst e
        show (L2.defScope sBl).names.lookup ("number" : Str) = some .local
        decide +kernel
      · exact absurd hy (by simp)
  · refine ks_wpAt_execs_cons (ks_wpAt_Expr_any (ks_wpAt_MethodCall (pl := L2.plainOf (.Call (.Name "super" ⟨0, 0, 0, 0⟩) [] [] ⟨0, 0, 0, 0⟩) (callEnv (ksFn "__init__" "BadLine.__init__" (L2.defArgs sBl) (L2.defBody sBl) (L2.defScope sBl) .none .none doc pm an (.ref co) ct cc) s.heap.objs.size fI)) ?_))
    have X1 : K.In h1 := X.keeps k1
    have hx1 := k1 _ _ hx
    have old : ∀ b o, base.get? b = some o → h1.get? b = some o := fun b o e => k1 b o (kb b o e)
    have hC1 : h1.get? C = _ := X1 _ _ hC
    have I1 : InstAt h1 x (excO C t0) C none := ⟨hx1, rfl, rfl, trivial⟩
    refine ks_wpAt_super_base (of := ⟨oc, od, _, osl⟩) (oc := ⟨cl, cod, .fields cvs, csl⟩) (by rfl) (by rfl) (by rfl) rfl (X1 _ _ ho) rfl rfl rfl (X1 _ _ hco) rfl hvs hfile T.topS ?_
    refine ks_loadName_global (by rfl) (by rfl) (loadGlobal_builtin (G.keeps old) (mg_none_of KB G T.sup) (Bn.keeps old) ((hB _ (by decide +kernel)).trans (by decide +kernel)) ⟨rfl, ?_⟩)
    refine wpAny_loadName_free (by rfl) (by rfl) (by rfl) ⟨_, X1 _ _ hcc, rfl⟩ ?_
    refine wpAny_loadName_local (v := .ref x) (by rfl) (by rfl) hns (by rfl) ?_
    refine ks_wpAny_isType_cls hC1 rfl ⟨rfl, ?_⟩
    refine ks_wpAny_call_super hC1 rfl hx1 rfl (fun c e => by cases e) (looks_mroIn X1 T.meC) (fun h2 e2 k2 => ?_)
    have X2 : K.In h2 := X1.keeps k2
    have hx2 := k2 _ _ hx1
    have I2 : InstAt h2 x (excO C t0) C none := ⟨hx2, rfl, rfl, trivial⟩
    have hm : alongIn K "__init__" (((.ref C :: veTail : List Value).dropWhile (· != .ref C)).drop 1) = some (some (.builtin "ValueError.__init__")) := by
      have z := T.supI
      unfold ks_superIn at z
      rw [hcl] at z
      exact z
    refine kxs_getMethod kxs_ValueError e2 (looks_opaque X2 T.opq) (l₀ := .ref C :: veTail) (fun A Q E s k q => wpAny_bind ((looks_clsIn X2 hcl) A _ E s k (wpAny_pure q))) rfl X2 hm (I2.type.andThen (looks_subIn X2 T.veC)) (ks_ne X2 I2 hcl) (by decide) ?_
    have k3 : ∀ b o, h2.get? b = some o → (h2.push (kxs_mw "ValueError.__init__" x)).get? b = some o := fun b o e => Heap.get?_push_of_some (a := b) _ e
    have hns3 := (hns.keeps k2).keeps k3
    have ldN : ∀ {h : Heap} {t : Nat} {Q : Value → Shared → Prop} {E : Value → Shared → Prop} {y : Str} {p : Pos} {u : Value}, h.Ns s.heap.objs.size (fun x_1 => List.lookup x_1 (bnds x v).reverse) → ((bnds x v).reverse : List (Str × Value)).lookup y = some u → (L2.defScope sBl).names.lookup y = some .local → (y == ("__debug__" : Str)) = false → Q u ⟨h, s.gens, s.drawn, t, s.os⟩ →
        wpAny (model prog w) (A.deeper (callEnv (ksFn "__init__" "BadLine.__init__" (L2.defArgs sBl) (L2.defBody sBl) (L2.defScope sBl) .none .none doc pm an (.ref co) ct cc) s.heap.objs.size fI)) (eval (.Name y p) (callEnv (ksFn "__init__" "BadLine.__init__" (L2.defArgs sBl) (L2.defBody sBl) (L2.defScope sBl) .none .none doc pm an (.ref co) ct cc) s.heap.objs.size fI)) Q E ⟨h, s.gens, s.drawn, t, s.os⟩ :=
      fun hn e el ed hQ => wpAny_Name (wpAny_loadName_local (by rfl) el hn e hQ) ed
    refine kxs_callWith (i := "ValueError.__init__") (x := x) (by rfl) (evalArgs_plain (spliced_cons (ldN hns3 (by rfl) (by rfl) (by decide) (spliced_nil ⟨Heap.get?_push_size _ rfl, ?_⟩))))
    refine call_mw (X2.keeps k3 _ _ hC) (k3 _ _ hx2) (Heap.get?_push_size _ rfl) (by rw [sizeLine_eq]; exact (by decide : 1 ≤ 16777216)) fun h4 t4 k4 hx4 => ?_
    have xL : s.heap.objs.size ≠ x := Nat.ne_of_gt (Heap.lt_size hx)
    have hns4 : h4.Ns s.heap.objs.size (fun x_1 => List.lookup x_1 (bnds x v).reverse) := by
      obtain ⟨oL, es, ep, hL, r⟩ := hns3
      exact ⟨oL, es, ep, k4 _ _ xL hL, r⟩
    have X4 : K.In h4 := fun a o e => k4 a o (fun z => by
      have q := KB a o e
      rw [z, hnx] at q
      cases q) (X2.keeps k3 a o e)
    refine wpAt_of_wpAny (wpAny_execs_cons (plainObj_wpAny_Assign_Attribute (ldN hns4 (by rfl) (by rfl) (by decide) (ldN hns4 (by rfl) (by rfl) (by decide) ?_))))
    refine set_plain X4 (ox := excO C t4) (od := none) ⟨hx4, rfl, rfl, trivial⟩ T.sa (exc_osa X4 hx4 hcl (show refsVE (.ref C :: veTail) = true by rfl) rfl T.noN fun h5 tk5 dx k5' dn dne hx5 hn5 => wpAny_execs_nil ?_)
    have kk : ∀ b o, b ≠ x → s.heap.get? b = some o → h4.get? b = some o := fun b o hb e => k4 b o hb (k3 b o (k2 b o (k1 b o e)))
    have lt5 : s.heap.objs.size ≤ h4.objs.size := by
      have z : h4.get? s.heap.objs.size ≠ none := by
        obtain ⟨oL, es, ep, hL, r⟩ := hns4
        rw [hL]
        exact fun q => nomatch q
      cases e : h4.get? s.heap.objs.size with
      | none => exact absurd e z
      | some o => exact Nat.le_of_lt (Heap.lt_size e)
    exact hq h5 tk5 dx t4 ⟨fun b o hb e => k5' b o hb (kk b o hb e), hx5, Nat.le_trans lt5 dn, dne, hn5⟩
/-- what a made BadLine is -/
structure BlMade (h h' : Heap) (e C d : Addr) (v : Value) : Prop where
  keep : ∀ b o, h.get? b = some o → h'.get? b = some o
  new : h.objs.size ≤ e
  obj : ∃ t1, h'.get? e = some { cls := .ref C, dict := some d, data := .fields #[.ref t1, .none, .none, .none, .bool false, .none] }
  dbig : h.objs.size ≤ d
  dne : d ≠ e
  ns : h'.Ns1 d (fun y => if y = "number" then some v else none)
theorem bl_made (T : BlTxt prog K mg C fI cc co) {base : Heap} {v : Value} (KB : K.In base) (G : base.Ns mainGlobals mg) (Bn : base.Ns builtinsNs mb) (hB : ∀ x : Str, x ≠ "__name__" → mb x = bootBuiltins x) (kb : ∀ b o, base.get? b = some o → s.heap.get? b = some o) (hlim : s.heap.NoLimit) (hroom : A.depth + 1 < recursionLimit)
    (hq : ∀ h' tk e d, BlMade s.heap h' e C d v → R (.ok (.ret (.ref e))) { s with heap := h', toks := tk }) :
    codeAny (model prog w) A (.call (.ref C) ⟨[v], []⟩) R s := by
  obtain ⟨nm, q, N, bs, sn, sub, ab, col, dd, k0, k1, k2, k3, k5, hC⟩ := T.cls
  obtain ⟨hp, g, dr, tk, os⟩ := s
  have X : K.In hp := KB.keeps kb
  have k : ∀ b o, hp.get? b = some o → ((hp.push (kdv_tup [v])).push (excO C hp.objs.size)).get? b = some o := fun b o e => Heap.get?_push_of_some _ (Heap.get?_push_of_some _ e)
  have hget : ((hp.push (kdv_tup [v])).push (excO C hp.objs.size)).get? (hp.objs.size + 1) = some (excO C hp.objs.size) := by heap_get
  have hnx : base.get? (hp.objs.size + 1) = none := by
    cases e : base.get? (hp.objs.size + 1) with
    | none => rfl
    | some o => exact absurd (Nat.lt_of_succ_lt (Heap.lt_size (kb _ _ e))) (Nat.lt_irrefl _)
  refine call_own F.excBase_ValueError (fun _ => rfl) (X _ _ hC) (looks_findIn X T.iC) (fun self => bind_fn X self T.tC) (by rw [sizeLine_eq]; exact (by decide : 1 ≤ 16777216)) ?_
  refine bl_init (s := ⟨(hp.push (kdv_tup [v])).push (excO C hp.objs.size), g, dr, tk, os⟩) T KB G Bn hB (fun b o e => k b o (kb b o e)) (hlim.keeps k) hget hnx hroom fun h' tk' dx t1 M => ?_
  have old : ∀ b o, hp.get? b = some o → h'.get? b = some o := fun b o e => M.keep b o (Nat.ne_of_lt (Nat.lt_succ_of_lt (Heap.lt_size e))) (k b o e)
  have z : hp.objs.size + 1 + 1 ≤ dx := by
    have q := M.dbig
    simpa only [Heap.size_push] using q
  exact ⟨rfl, hq h' tk' (hp.objs.size + 1) dx ⟨old, Nat.le_succ _, ⟨t1, M.obj⟩, Nat.le_trans (Nat.le_trans (Nat.le_succ _) (Nat.le_succ _)) z, M.dne, M.ns⟩⟩
end
end Sv
/-! part X2 -/
set_option Elab.async false
set_option linter.all false
set_option maxRecDepth 100000
set_option maxHeartbeats 4000000
namespace Sv
open PySem PySem.Spec PyProof.Rows L2
theorem relO_one {f : Str} {v : V} {v' : Value} (r : RelV v v') (g : Str) : RelO (List.lookup g [(f, v)]) (if g = f then some v' else none) := by
  by_cases hw : g = f
  · subst hw
    rw [if_pos rfl]
    have q : List.lookup g [(g, v)] = some v := by simp [List.lookup]
    rw [q]
    exact r
  · rw [if_neg hw]
    have qw : (g == f) = false := by simpa using hw
    have q2 : List.lookup g [(f, v)] = none := by simp [List.lookup, qw]
    rw [q2]
    trivial
section
variable {X : Cx} {C fI cc co : Addr}
/-- BadLine(e) -/
def tMkBl (C : Addr) (ta : TA) : L2.St → Hp → XK → Prop := fun σ H Q => ta σ H fun vs H1 => ∃ v, vs = [v] ∧ ∀ d, H1 d = none → Q (.ref C) (some d) (upd H1 d (.xd [(("number" : Str), v)]))
theorem pmk_bl {a : Expr} {ta : TA} {p pos : Pos} {k : Nat} (T : BlTxt X.prog X.K X.mg C fI cc co) (hr : Room k X.A) (ha : PA X [a] ta) (hg : Gl X "BadLine" := by rfl)
    (he : starEach (a :: []) X.env = (false, eval a X.env) :: starEach [] X.env := by rfl) (hpl : (backTo pos (starEach [] X.env)).any (·.1) = false := by rfl) :
    PMk X (.Call (.Name "BadLine" p) [a] [] pos) (tMkBl C ta) := by
  intro pins s σ H Q I h
  refine wpAny_Call_Name_kw (ld_glob I hg T.gC ?_)
  refine PySem.W.callWith_K (h₀ := X.base) I.ok.mod.kin T.kC (thn (ha.run pos pins s σ H _ I h) fun us s1 hh => ?_) he hpl
  obtain ⟨vs, H1, I1, r1, v, ev, q1⟩ := hh
  subst ev
  refine ⟨I1.kIn, ?_⟩
  cases r1 with
  | cons rv rn =>
    rename_i v' us'
    cases rn
    show wpAny _ _ (call (.ref C) [v']) _ _ _
    have hlim := I1.nolimit
    obtain ⟨mb, hb1, hb2⟩ := I1.mod.blt
    have kb := I1.bk
    obtain ⟨hp, g, dr, tk, os⟩ := s1
    refine wpAny_call (bl_made T I1.mod.kin I1.mod.glob hb1 hb2 kb hlim (by have := hr.dp; omega) fun h' tk' e d M => ?_)
    show MkP X pins σ Q (.ref e) ⟨h', g, dr, tk', os⟩
    obtain ⟨t1, hoe⟩ := M.obj
    have hns := M.ns
    obtain ⟨G', g1, g2⟩ := restrict h' fun b => decide (b ≠ e)
    have gk : ∀ b, b ≠ e → G'.get? b = h'.get? b := fun b hb => g1 b (decide_eq_true hb)
    have ge : G'.get? e = none := g2 e (by simp)
    have old : ∀ b o, hp.get? b = some o → G'.get? b = some o := fun b o q => (gk b (Nat.ne_of_lt (Nat.lt_of_lt_of_le (Heap.lt_size q) M.new))).trans (M.keep b o q)
    have ob : ObjOk X.prog X.w (upd H1 d (.xd [(("number" : Str), v)])) G' d (.xd [(("number" : Str), v)]) :=
      ⟨_, hns.at (fun o q => (gk d M.dne).trans q), fun f => relO_one rv f⟩
    have J : Inv X pins σ (upd H1 d (.xd [(("number" : Str), v)])) ⟨G', g, dr, tk', os⟩ := I1.laid (t' := tk') old M.dbig ob
    refine ⟨e, _, _, ⟨G', g, dr, tk', os⟩, _, .ref C, some d, rfl, J, fun b o q => ?_, ge, hoe, ⟨rfl, rfl⟩, rfl, rfl, ?_, rfl, I1.bare, raises_own T.exC T.tyC, q1 d (I1.hok.fresh M.dbig)⟩
    · by_cases hb : b = e
      · have q' : G'.get? b = some o := q
        rw [hb, ge] at q'
        cases q'
      · exact (gk b hb).symm.trans q
    · rw [upd_ne (Ne.symm M.dne)]
      exact I1.hok.fresh M.new
/-- raise BadLine(e) -/
theorem ps_raiseBl {a : Expr} {ta : TA} {W : WX} {p pos pos2 : Pos} {k : Nat} (hc : X.calm = true) (T : BlTxt X.prog X.K X.mg C fI cc co) (hr : Room k X.A) (tk : Takes X W) (ha : PA X [a] ta) (hg : Gl X "BadLine" := by rfl)
    (he : starEach (a :: []) X.env = (false, eval a X.env) :: starEach [] X.env := by rfl) (hpl : (backTo pos (starEach [] X.env)).any (·.1) = false := by rfl) :
    PS X (.Raise (some (.Call (.Name "BadLine" p) [a] [] pos)) none pos2) (fun _ σ H => tMkBl C ta σ H fun cls d H' => W cls d σ H') := ps_raise hc tk (pmk_bl T hr ha hg he hpl)
end
/-! ### an error that is kept behind the suite -/
/-- at a: an exception of the class cls, its dict d -/
def ExK (cls : Value) (d : Option Addr) (a : Addr) : HO := .ext fun h => ∃ (oe : Obj) (vs : Array Value), h.get? a = some oe ∧ Zc cls d oe ∧ oe.data = .fields vs
theorem exK_ok {P : Program} {w : World} {H : Hp} {h : Heap} {a : Addr} {cls : Value} {d : Option Addr} {oe : Obj} {vs : Array Value} (e : h.get? a = some oe) (z : Zc cls d oe) (q : oe.data = .fields vs) : ObjOk P w H h a (ExK cls d a) :=
  ⟨⟨oe, vs, e, z, q⟩, ⟨oe, e⟩, fun _ _ ⟨o, v, x, y⟩ k => ⟨o, v, k o x, y⟩⟩
theorem _root_.L2.Inv.trackS {X : Cx} {pins : List (Addr × Obj)} {σ : L2.St} {H : Hp} {s : Shared} {a : Addr} {o : HO} (I : Inv X pins σ H s) (hn : H a = none) (h0 : X.s_0.heap.get? a = none) (nL : a ≠ X.env.locals) (nc : ∀ x c, X.env.cells.lookup x = some c → c ≠ a) (np : ∀ p ∈ X.pn ++ pins, p.1 ≠ a)
    (new : ObjOk X.prog X.w (upd H a o) s.heap a o) : Inv X pins σ (upd H a o) s := by
  refine ⟨I.ok, I.os, I.bare, ⟨I.base.keep, I.base.slot, fun b ob e n hx => ?_, I.base.there, fun b xs e => ?_, fun b ob u e => ?_, fun b ps e => ?_⟩, I.loc, I.cell, ?_, fun x c e => ?_, fun p hp => ?_, fun b u e => ?_, I.len⟩
  · rw [upd_ne (fun z => by rw [z, h0] at e; cases e)]
    exact I.base.free b ob e n hx
  · have q := I.base.tups b xs e
    rw [upd_ne (ne_of_none q hn)]
    exact q
  · have q := I.base.frzs b ob u e
    rw [upd_ne (ne_of_none q hn)]
    exact q
  · obtain ⟨m, q⟩ := I.base.tbls b ps e
    exact ⟨m, by rw [upd_ne (ne_of_none q hn)]; exact q⟩
  · rw [upd_ne (Ne.symm nL)]
    exact I.free
  · rw [upd_ne (nc x c e)]
    exact I.freeC x c e
  · obtain ⟨e, n, ne, nf, d⟩ := I.pin p hp
    exact ⟨e, by rw [upd_ne (np p hp)]; exact n, ne, nf, d⟩
  · by_cases hb : b = a
    · subst hb
      rw [upd_same] at e
      cases e
      exact new
    · rw [upd_ne hb] at e
      exact (I.hok b u e).stay (fun _ _ _ q => q) (fun c q => by rw [upd_ne (ne_of_none q hn)]; exact q) fun c xs q => by rw [upd_ne (ne_of_none q hn)]; exact q
end Sv
/-! part X3 -/
set_option Elab.async false
set_option linter.all false
set_option maxRecDepth 100000
set_option maxHeartbeats 4000000
namespace Sv
open PySem PySem.Spec PyProof.Rows L2
theorem flying_ext {base : Heap} {l : List Env} {e : Addr} {Z : Obj → Prop} {h h' : Heap} (x : HandSPX.FlyingZ base l e Z h) (k : ∀ b o, h.get? b = some o → h'.get? b = some o) : HandSPX.FlyingZ base l e Z h' := by
  obtain ⟨f1, f2, f3, oe, vs, T, oT, ts, a1, a2, a3, a4, a5, a6, a7, a8, a9⟩ := x
  exact ⟨fun b o q => k b o (f1 b o q), f2, f3.of_keeps fun b o q _ => ⟨o, k b o q, rfl⟩, oe, vs, T, oT, ts, k _ _ a1, a2, a3, a4, a5, a6, k _ _ a7, a8, a9⟩
/-- what except (..) as n: y = n wishes of an exception of the body: slot i is n's, slot j is y's -/
def wKeep (K : PySem.W.Frag) (us : List Value) (i j : Nat) (D : Ends) : WX := fun cls d σ H =>
  PySem.W.exmAny K cls us = some true ∧ ∀ a, H a = none → D.nx ((σ.set j (some (.ref a))).set i none) (upd H a (ExK cls d a))
section
variable {X : Cx} {n y x1 x2 x3 : Str} {c1 c2 c3 : Addr} {i j : Nat} {body : List Stmt} {p1 p2 p3 tp pn_ py_ spos pos pos' : Pos} {kk : Nat} {tb : WX → TS}
theorem ps_try_keep (hex : X.ex = []) (hs : X.stack = X.env :: X.outer) (hf : X.env.frame = some X.env.locals) (hN : X.N.Nodup) (hi : X.N[i]? = some n) (hj : X.N[j]? = some y) (hij : i ≠ j) (hln : X.env.kindOf n = some .local) (hly : X.env.kindOf y = some .local)
    (m1 : X.mg x1 = some (.ref c1)) (m2 : X.mg x2 = some (.ref c2)) (m3 : X.mg x3 = some (.ref c3)) (g1 : Gl X x1) (g2 : Gl X x2) (g3 : Gl X x3) (nd1 : (x1 == ("__debug__" : Str)) = false) (nd2 : (x2 == ("__debug__" : Str)) = false) (nd3 : (x3 == ("__debug__" : Str)) = false) (ndn : (n == ("__debug__" : Str)) = false) (ncn : (n == ("__classdict__" : Str)) = false)
    (e1 : starEach [.Name x1 p1, .Name x2 p2, .Name x3 p3] X.env = (false, eval (.Name x1 p1) X.env) :: starEach [.Name x2 p2, .Name x3 p3] X.env) (e2 : starEach [.Name x2 p2, .Name x3 p3] X.env = (false, eval (.Name x2 p2) X.env) :: starEach [.Name x3 p3] X.env) (e3 : starEach [.Name x3 p3] X.env = (false, eval (.Name x3 p3) X.env) :: starEach [] X.env)
    (hsw : swapsWith (.Name n pn_) (some (.Name y py_)) spos.line X.env = pure false)
    (hb : ∀ (W : WX) (pn : List (Addr × Obj)) (xe : Value → Shared → Prop), Takes (X.tr pn xe) W → PassesOwn (model X.prog X.w) X.A X.env xe → PSs (X.tr pn xe) body (tb W)) :
    PS X (.Try body [.ExceptHandler (some (.Tuple [.Name x1 p1, .Name x2 p2, .Name x3 p3] kk tp)) (some n) [.Assign [.Name y py_] (.Name n pn_) spos] pos'] [] [] pos) (fun D σ H => tb (wKeep X.K [.ref c1, .ref c2, .ref c3] i j D) D σ H) := by
  refine ⟨fun pins s σ H D I h => ?_⟩
  have ok := I.ok
  have hfr : X.A.frames = some (X.env :: X.outer) := by rw [ok.frames, hs]
  have hloc : Loc X.env.scope n := .inl hln
  have hlocY : Loc X.env.scope y := .inl hly
  refine wpAny_Try_except (wpAny_mono ((hb (wKeep X.K [.ref c1, .ref c2, .ref c3] i j D) (X.pn ++ pins) (fun e s₁ => wpAny (model X.prog X.w) X.A (noteFrame e X.env) (fun _ s₂ => wpAny (model X.prog X.w) X.A (setFlight e none) (fun _ s₃ =>
    wpAny (model X.prog X.w) X.A (handleBy e X.env [.ExceptHandler (some (.Tuple [.Name x1 p1, .Name x2 p2, .Name x3 p3] kk tp)) (some n) [.Assign [.Name y py_] (.Name n pn_) spos] pos']) (SP X pins D) X.xe s₃) X.xe s₂) X.xe s₁) (fun u s' xx => ?_) PassesOwn.looking).run [] s σ H D (I.toTry _) h) (fun f s1 hsp => ?_) (fun e s1 he => he))
  · obtain ⟨a, B, sI, pins', σ', H', cls, d, rfl, J', nb, up, sky, na, os, ag, hx, hyes⟩ := xx
    have J : Inv X pins σ' H' sI := J'.ofTry ok
    have sky' : Sky B (X.env :: X.outer) a (Zc cls d) X.env.locals s'.heap := by rw [← hs]; exact sky
    show wpAny (model X.prog X.w) X.A (noteFrame (.ref a) X.env) _ _ _
    refine Sky.land (B := B) Zc.steady hfr hf sky' fun h3 fl3 up3 => ?_
    have J3 : Inv X pins σ' H' { s' with heap := h3 } := J.landed nb fl3.1 (up.trans up3) os ag
    obtain ⟨oe3, vs3, he3, hz3, hd3⟩ := fl3.there
    have nfr : a ∉ frs (X.env :: X.outer) := fun hm => by
      obtain ⟨_, o', e', hnf⟩ := fl3.2.2.1.mem hm
      rw [he3] at e'
      cases e'
      exact hnf _ hd3
    have nL : a ≠ X.env.locals := fun z => nfr (List.mem_filterMap.mpr ⟨X.env, List.mem_cons_self, by rw [hf, z]⟩)
    have nF : a ∉ X.fs := fun hm => by
      obtain ⟨e, he, q⟩ := List.mem_filterMap.mp hm
      exact nfr (List.mem_filterMap.mpr ⟨e, List.mem_cons_of_mem _ he, q⟩)
    -- the exception is younger than the entry
    have nI : sI.heap.get? a = none := by
      cases q : sI.heap.get? a with
      | none => rfl
      | some o =>
        have z := nb a o q (by rw [hs]; exact nfr)
        rw [fl3.2.1] at z
        cases z
    have n0 : X.s_0.heap.get? a = none := by
      cases q : X.s_0.heap.get? a with
      | none => rfl
      | some o =>
        obtain ⟨o', z⟩ := J.base.there a o q (by rw [hex]; exact fun z => nomatch z)
        rw [nI] at z
        cases z
    have np : ∀ p ∈ X.pn ++ pins, p.1 ≠ a := fun p hp z => by
      have q := (J.pin p hp).1
      rw [z, nI] at q
      cases q
    have S3 := J3.suite he3 hd3 na nL nF
    refine wpAny_handleBy_cons (codeAny_handlers_test ?_) (by intro q; cases q)
    have ld : ∀ {x : Str} {c : Addr} {p : Pos} {Q : Value → Shared → Prop} {E : Value → Shared → Prop}, X.mg x = some (.ref c) → Gl X x → (x == ("__debug__" : Str)) = false → Q (.ref c) { s' with heap := h3 } → wpAny (model X.prog X.w) (X.A.mark (some (.ref a))) (eval (.Name x p) X.env) Q E { s' with heap := h3 } :=
      fun {x c p Q E} hm hg hdb q => ld_glob (X := X.suite a ((a, oe3) :: (X.pn ++ pins))) S3 hg hm q hdb
    refine wpAny_Tuple_spliced ?_
    rw [e1]
    refine Calls.spliced_cons (ld m1 g1 nd1 ?_)
    rw [e2]
    refine Calls.spliced_cons (ld m2 g2 nd2 ?_)
    rw [e3]
    refine Calls.spliced_cons (ld m3 g3 nd3 (Calls.spliced_nil ⟨by show 3 ≤ sizeLine; decide, ?_⟩))
    have kp : ∀ b o, h3.get? b = some o → (h3.push { cls := .type "tuple", data := .seq [Value.ref c1, .ref c2, .ref c3].toArray }).get? b = some o := fun b o e => Heap.get?_push_of_some (a := b) _ e
    have fl3' := flying_ext fl3 kp
    have J3' : Inv X pins σ' H' { s' with heap := h3.push { cls := .type "tuple", data := .seq [Value.ref c1, .ref c2, .ref c3].toArray } } := J.landed nb fl3'.1 (up.trans (up3.trans (Heap.UpToSlots.of_keeps kp))) os ag
    have LT : PySem.W.Looks (model X.prog X.w) (h3.push { cls := .type "tuple", data := .seq [Value.ref c1, .ref c2, .ref c3].toArray }) (typeOf (.ref a)) cls := fun A Q E s k q => wpAny_typeOf_ref (k _ _ (kp _ _ he3)) (by rw [hz3.1]; exact q)
    refine (PySem.W.exm_tup3 (M := model X.prog X.w) J3'.kIn LT (Heap.get?_push_size _ rfl) hx).here ?_
    refine codeAny_handlers_suite_as ?_
    refine HandSPX.lands_againZ fl3' fun h4 fl4 up4 => ?_
    have J4 : Inv X pins σ' H' { s' with heap := h4 } := J.landed nb fl4.1 ((up.trans (up3.trans (Heap.UpToSlots.of_keeps kp))).trans up4) os ag
    obtain ⟨oe4, vs4, he4, hz4, hd4⟩ := fl4.there
    have S4 := J4.suite he4 hd4 na nL nF
    refine store_ok (X := X.suite a ((a, oe4) :: (X.pn ++ pins))) (v := .ref a) S4 hN hi hloc rfl (fun s5 S5 => ?_) (.inr hln)
    have lenσ : σ'.length = X.N.length := J.len
    have hil : i < σ'.length := by rw [lenσ]; exact (List.getElem?_eq_some_iff.mp hi).1
    have asg := ps_set (X := X.suite a ((a, oe4) :: (X.pn ++ pins))) (i := j) (pos := spos) (pos' := py_) hN hj hlocY (pe_var (X := X.suite a ((a, oe4) :: (X.pn ++ pins))) (i := i) (pos := pn_) hi (.inl hln) ndn ncn) hsw (.inr hly)
    refine wpAny_mono ((pss_one asg).run [] s5 _ H' { nx := fun σ6 H6 => σ6 = (σ'.set i (some (.ref a))).set j (some (.ref a)) ∧ H6 = H', rt := fun _ _ => False } S5 ⟨.ref a, by rw [List.getElem?_set_self hil], rfl, rfl⟩) (fun f s6 hsp => ?_) (fun _ _ z => False.elim z)
    cases f with
    | next =>
      obtain ⟨σ6, H6, S6, e6, e7⟩ := hsp
      subst e6
      subst e7
      have J6 : Inv X pins _ _ s6 := S6.unsuite ok
      obtain ⟨hp6, _⟩ := S6.pin (a, oe4) (List.mem_append_left _ List.mem_cons_self)
      have J7 := J6.trackS (o := ExK cls d a) na n0 nL (fun x c e z => by
        obtain ⟨v, oc, q1, q2⟩ := J6.cell x c e
        rw [z, hp6] at q1
        cases q1
        rw [hd4] at q2
        cases q2) np (exK_ok hp6 hz4 hd4)
      refine gone_ok J7 hN hi hln fun s7 J8 => ⟨_, _, J8, ?_⟩
      rw [List.set_comm _ _ hij, List.set_set]
      exact hyes a na
    | brk =>
      obtain ⟨_, _, _, z⟩ := hsp
      exact z.elim
    | cont =>
      obtain ⟨_, _, _, z⟩ := hsp
      exact z.elim
    | ret u =>
      obtain ⟨_, _, _, _, _, z⟩ := hsp
      exact z.elim
  · cases f with
    | next =>
      obtain ⟨σ', H', J', q⟩ := hsp
      exact wpAny_execs_nil ⟨σ', H', J'.ofTry ok, q⟩
    | brk =>
      obtain ⟨σ', H', J', q⟩ := hsp
      exact ⟨σ', H', J'.ofTry ok, q⟩
    | cont =>
      obtain ⟨σ', H', J', q⟩ := hsp
      exact ⟨σ', H', J'.ofTry ok, q⟩
    | ret u =>
      obtain ⟨v, σ', H', J', r, q⟩ := hsp
      exact ⟨v, σ', H', J'.ofTry ok, r, q⟩
end
end Sv
/-! part X4 -/
set_option Elab.async false
set_option linter.all false
set_option maxRecDepth 100000
set_option maxHeartbeats 4000000
namespace Sv
open PySem PySem.Spec PyProof.Rows L2
/-- what the class D of an error must say, so that isinstance asks its instances rightly -/
structure IsC (K : PySem.W.Frag) (D : Addr) : Prop where
  cl : (PySem.W.clsIn K D).isSome = true
  ga : PySem.W.findIn K (.ref D) "__getattribute__" = some (some (.builtin "BaseException.__getattribute__"))
  gg : PySem.W.findIn K (.ref D) "__getattr__" = some none
  ex : PySem.W.subIn K (.ref D) (.type "BaseException") = some true
  hd : PySem.W.hasDictIn K D = true
  ha : PySem.W.findIn K (.ref D) "__class__" = some (some (.builtin "object.__class__"))
  hn : PySem.W.specialIn K (.builtin "object.__class__") "__get__" = some (some (.builtin "getset_descriptor.__get__"))
  ht : PySem.W.takesIn K (.builtin "object.__class__") = some true
  hm : PySem.W.mroIn K D (.type "object") = some true
section
variable {X : Cx} {pins : List (Addr × Obj)} {σ : L2.St} {H : Hp} {s : Shared}
/-- a kept error as an instance with its dict -/
theorem exk_inst {P : Program} {w : World} {h : Heap} {a D dd : Addr} {fs : List (Str × V)} (hok : HOk P w H h) (ea : H a = some (ExK (.ref D) (some dd) a)) (ed : H dd = some (.xd fs)) :
    ∃ (oe od : Obj) (mA : Str → Option Value), PySem.W.InstAt h a oe D (some od) ∧ (∀ f, PySem.W.lookIn f od = some (mA f)) ∧ ∀ f, RelO (fs.lookup f) (mA f) := by
  obtain ⟨⟨oe, vs, he, hz, hd⟩, _, _⟩ := hok a _ ea
  obtain ⟨mA, hns, hr⟩ := (show ObjOk P w H h dd (.xd fs) from hok dd _ ed)
  obtain ⟨od, ho, hl⟩ := lookIn_ns hns
  exact ⟨oe, od, mA, ⟨he, hz.1, by unfold PySem.W.notCls; rw [hd] <;> rfl, by rw [hz.2]; exact ho⟩, hl, hr⟩
/-- isinstance(e, c), e a kept error -/
def rIsK (K : PySem.W.Frag) : List V → Hp → VK → Prop := fun xs H Q => ∃ (a D dd : Addr) (fs : List (Str × V)) (c : V) (cv : Value) (b : Bool), xs = [.ref a, c] ∧ H a = some (ExK (.ref D) (some dd) a) ∧ H dd = some (.xd fs) ∧ IsC K D ∧ (∀ u, RelV c u → u = cv) ∧ PySem.W.kitOne K (.ref D) cv = some b ∧ Q (.bl b) H
theorem call_isK : CallR X (.builtin "isinstance") (rIsK X.K) := by
  intro pins s σ H xs us Q I r h
  obtain ⟨a, D, dd, fs, c, cv, b, rfl, ea, ed, T, hcv, e, q⟩ := h
  cases r with
  | cons rx rr =>
    cases rr with
    | cons rt rr =>
      cases rr
      cases rx
      have ec := hcv _ rt
      subst ec
      obtain ⟨oe, od, mA, J, _, _⟩ := exk_inst I.hok ea ed
      exact PySem.W.kia_one (PySem.W.kitx_exc T.cl T.ga T.gg T.ex T.ha T.hn T.ht T.hm) I.kIn J e (fun z => nomatch z) fun tk => ⟨.bl b, H, I.kept (t' := tk) fun _ _ z => z, rfl, q⟩
/-- e.f, e a kept error -/
def tExF (K : PySem.W.Frag) (f : Str) (te : TE) : TE := fun σ H Q => te σ H fun x H1 => ∃ (a D dd : Addr) (fs : List (Str × V)) (v : V), x = .ref a ∧ H1 a = some (ExK (.ref D) (some dd) a) ∧ H1 dd = some (.xd fs) ∧ IsC K D ∧ PySem.W.findIn K (.ref D) f = some none ∧ fs.lookup f = some v ∧ Q v H1
theorem pe_exf {e : Expr} {te : TE} {pos : Pos} {n : Str} (he : PE X e te) (hb : attributeBase e n X.env (eval e X.env) = eval e X.env := by rfl) : PE X (.Attribute e n pos) (tExF X.K n te) := by
  refine ⟨fun pins s σ H Q I h => attr_of hb (thn (he.run pins s σ H _ I h) fun u s1 hh => ?_)⟩
  obtain ⟨x, H1, I1, rx, a, D, dd, fs, v, ex, ea, ed, T, hno, l, q⟩ := hh
  subst ex
  obtain rfl : u = Value.ref a := rx
  obtain ⟨oe, od, mA, J, hl, hr⟩ := exk_inst I1.hok ea ed
  obtain ⟨u, hu, ru⟩ := RelO.some_of (v := v) (o := mA n) (by rw [← l]; exact hr n)
  exact HandSPX.exc_get I1.kIn J T.ga T.gg T.ex (PySem.W.findObj_own T.hd hno rfl (by rw [hl, hu])) (handed_of ru) ⟨v, H1, I1.tok _, ru, q⟩
end
end Sv
/-! part X5 -/
set_option Elab.async false
set_option linter.all false
set_option maxRecDepth 100000
set_option maxHeartbeats 4000000
namespace Sv
open PySem PySem.Spec PyProof.Rows L2
/-! ### the first bad line -/
def lastAt (b : Bool) (ls : List Str) : Nat → Int
  | 0 => 0
  | i + 1 => match (ls[i]?).bind (lineO b) with
    | some r => r.u
    | none => 0
def badT (b : Bool) (ls : List Str) (i : Nat) : Bool := match (ls[i]?).bind (lineO b) with
  | some r => decide (r.u ≤ lastAt b ls i)
  | none => true
theorem badAt_spec (b : Bool) (ls : List Str) : ∀ (k i : Nat), ls.length - i = k → i ≤ ls.length → match badAt b (ls.drop i) i (lastAt b ls i) with
    | some j => i ≤ j ∧ j < ls.length ∧ badT b ls j = true ∧ ∀ m, i ≤ m → m < j → badT b ls m = false
    | none => ∀ m, i ≤ m → m < ls.length → badT b ls m = false
  | 0, i, hk, hi => by
    have e : i = ls.length := by omega
    subst e
    rw [List.drop_length]
    show ∀ m, _ → _ → _
    intro m h1 h2
    omega
  | k + 1, i, hk, hi => by
    have hlt : i < ls.length := by omega
    have e0 : ls[i]? = some ls[i] := List.getElem?_eq_getElem hlt
    have ed : ls.drop i = ls[i] :: ls.drop (i + 1) := List.drop_eq_getElem_cons hlt
    rw [ed]
    unfold badAt
    cases eo : lineO b ls[i] with
    | none =>
      have bt : badT b ls i = true := by
        unfold badT
        rw [e0]
        show (match lineO b ls[i] with | some r => decide (r.u ≤ lastAt b ls i) | none => true) = true
        rw [eo]
      exact ⟨Nat.le_refl _, hlt, bt, fun m h1 h2 => by omega⟩
    | some r =>
      have bt : badT b ls i = decide (r.u ≤ lastAt b ls i) := by
        unfold badT
        rw [e0]
        show (match lineO b ls[i] with | some r => decide (r.u ≤ lastAt b ls i) | none => true) = _
        rw [eo]
      by_cases c : r.u ≤ lastAt b ls i
      · dsimp only
        rw [if_pos c]
        exact ⟨Nat.le_refl _, hlt, by rw [bt, decide_eq_true c], fun m h1 h2 => by omega⟩
      · dsimp only
        rw [if_neg c]
        have el : lastAt b ls (i + 1) = r.u := by
          show (match (ls[i]?).bind (lineO b) with | some r => r.u | none => 0) = r.u
          rw [e0]
          show (match lineO b ls[i] with | some r => r.u | none => 0) = r.u
          rw [eo]
        have ih := badAt_spec b ls k (i + 1) (by omega) hlt
        rw [el] at ih
        have b0 : badT b ls i = false := by rw [bt, decide_eq_false c]
        cases eb : badAt b (ls.drop (i + 1)) (i + 1) r.u with
        | none =>
          rw [eb] at ih
          intro m h1 h2
          rcases Nat.eq_or_lt_of_le h1 with e | e
          · rw [← e]; exact b0
          · exact ih m e h2
        | some j =>
          rw [eb] at ih
          obtain ⟨h1, h2, h3, h4⟩ := ih
          exact ⟨Nat.le_of_succ_le h1, h2, h3, fun m q1 q2 => by
            rcases Nat.eq_or_lt_of_le q1 with e | e
            · rw [← e]; exact b0
            · exact h4 m e q2⟩
theorem bad_some {b : Bool} {ls : List Str} {j : Nat} (h : badAt b ls 0 0 = some j) : j < ls.length ∧ badT b ls j = true ∧ ∀ m, m < j → badT b ls m = false := by
  have z := badAt_spec b ls ls.length 0 (by omega) (Nat.zero_le _)
  rw [List.drop_zero, show lastAt b ls 0 = 0 from rfl, h] at z
  exact ⟨z.2.1, z.2.2.1, fun m q => z.2.2.2 m (Nat.zero_le _) q⟩
theorem bad_none {b : Bool} {ls : List Str} (h : badAt b ls 0 0 = none) : ∀ m, m < ls.length → badT b ls m = false := by
  have z := badAt_spec b ls ls.length 0 (by omega) (Nat.zero_le _)
  rw [List.drop_zero, show lastAt b ls 0 = 0 from rfl, h] at z
  exact fun m q => z m (Nat.zero_le _) q
/-- a turn that is not bad -/
theorem good_turn {b : Bool} {ls : List Str} {i : Nat} {l : Str} (h : badT b ls i = false) (hl : ls[i]? = some l) : ∃ r, lineO b l = some r ∧ lineD b l = rowD b r ∧ ¬ r.u ≤ lastAt b ls i ∧ lastAt b ls (i + 1) = r.u := by
  unfold badT at h
  rw [hl] at h
  have h' : (match lineO b l with | some r => decide (r.u ≤ lastAt b ls i) | none => true) = false := h
  cases eo : lineO b l with
  | none => rw [eo] at h'; cases h'
  | some r =>
    rw [eo] at h'
    refine ⟨r, rfl, by unfold lineD; rw [eo], of_decide_eq_false h', ?_⟩
    show (match (ls[i]?).bind (lineO b) with | some r => r.u | none => 0) = r.u
    rw [hl]
    show (match lineO b l with | some r => r.u | none => 0) = r.u
    rw [eo]
theorem bad_turn {b : Bool} {ls : List Str} {i : Nat} {l : Str} (h : badT b ls i = true) (hl : ls[i]? = some l) : lineD b l = .none ∨ ∃ r, lineD b l = rowD b r ∧ r.u ≤ lastAt b ls i := by
  unfold badT at h
  rw [hl] at h
  have h' : (match lineO b l with | some r => decide (r.u ≤ lastAt b ls i) | none => true) = true := h
  cases eo : lineO b l with
  | none => exact .inl (by unfold lineD; rw [eo])
  | some r =>
    rw [eo] at h'
    exact .inr ⟨r, by unfold lineD; rw [eo], of_decide_eq_true h'⟩
/-! ### promises of defs that may raise BadLine -/
def wBl (C : Addr) (E : XK) (i : Int) (H : Hp) : Prop := ∀ a H', Same H H' → H' a = some (.xd [(("number" : Str), V.int i)]) → E (.ref C) (some a) H'
theorem wBl_same {C : Addr} {E : XK} {i : Int} : ∀ H H', Same H H' → wBl C E i H → wBl C E i H' := fun H H' s h a H2 s2 e => h a H2 (s.trans s2) e
def spX (C : Addr) (F : List PyData → PyData → Prop) : Sp := fun vs H Q E => ∃ (B : List Addr) (ds : List PyData) (d : PyData), Dom B H ∧ Rps B H vs ds ∧ F ds d ∧ ((∀ i, d ≠ .int i) → ∀ v H', Same H H' → Rp B H' v d → Q v H') ∧ ∀ i, d = .int i → wBl C E i H
def riseD (b : Bool) (ls : List Str) : PyData := match badAt b ls 0 0 with
  | some i => .int (i : Nat)
  | none => .tuple (ls.map (lineD b))
theorem sheetD_rise {b : Bool} {z : Str} : sheetD b z = riseD b (linesS z) := rfl
section
variable {P : Program} {w : World} {K : PySem.W.Frag} {mg : Str → Option Value} {base : Heap} {C fI cc co : Addr}
abbrev HsX (P : Program) (w : World) (K : PySem.W.Frag) (mg : Str → Option Value) (base : Heap) (C : Addr) (k : Nat) (x : Str) (ps : List Str) (F : List PyData → PyData → Prop) : Prop := Has P w K mg base (L2.CX P w) k x ps (spX C F)
theorem at_save {b : Bool} {r : Row} : ∃ es, rowD b r = .tuple es ∧ L2.atI es (1 + iB b) = some (.int r.u) := by
  cases b with
  | false => exact ⟨_, rfl, rfl⟩
  | true => exact ⟨_, rfl, rfl⟩
abbrev N45 : List Str := ["rows", "place", "last", "number", "row"]
theorem sc45 : FnScope N45 ["rows", "place"] (defScope (top 45)) := ⟨rfl, rfl, rfl, by decide +kernel, rfl, by decide +kernel, by decide +kernel⟩
abbrev F45 : List PyData → PyData → Prop := fun ds d => ∃ (b : Bool) (ls : List Str), ds = [.list (ls.map (lineD b)), .int (1 + iB b)] ∧ ls.length ≤ 3001 ∧ d = riseD b ls
theorem ok_rising {f : Addr} {fd : FuncData} (F : FnP K "rising" (top 45) f fd) (T : Tx mg) (TB : BlTxt P K mg C fI cc co) : FnOk P w K mg base (L2.CX P w) 1 f fd ["rows", "place"] (spX C F45) := by
  refine F.ok sc45 (fun vs H Q E h => ?_) (fun cdv A outer s H vs Q E hr h => ?_)
  · obtain ⟨B, ds, d, D, rs, ⟨b, ls, e, _⟩, _⟩ := h
    subst e
    exact rs.length
  · obtain ⟨B, ds, d, D, rs, ⟨b, ls, e, hl, ed⟩, kq, kx⟩ := h
    subst e
    have tk : Takes (cxOf (L2.CX P w) P w K mg base N45 "rising" (defScope (top 45)) f cdv A outer s H E) (fun cls d _ H => E cls d H) := takes_of rfl rfl rfl rfl
    have hp : PassesOwn (model P w) (A.deeper (envOfC "rising" (defScope (top 45)) s.heap.objs.size f cdv)) (envOfC "rising" (defScope (top 45)) s.heap.objs.size f cdv) (cxOf (L2.CX P w) P w K mg base N45 "rising" (defScope (top 45)) f cdv A outer s H E).xe := passes_of rfl
    let u : Nat → Rho := fun i => [some (.list (ls.map (lineD b))), some (.int (1 + iB b)), some (.int (lastAt b ls i)), none, none]
    let v : Nat → Rho := fun i => [some (.list (ls.map (lineD b))), some (.int (1 + iB b)), some (.int (lastAt b ls i)), some (.int (i : Nat)), (ls[i]?).map (lineD b)]
    let z : Nat → Rho := fun i => [some (.list (ls.map (lineD b))), some (.int (1 + iB b)), some (.int (lastAt b ls (i + 1))), some (.int (i : Nat)), (ls[i]?).map (lineD b)]
    have bd : ∀ j, badAt b ls 0 0 = some j → j < (enumD 0 (ls.map (lineD b))).length := fun j hj => by
      rw [enumD_length, List.length_map]
      exact (bad_some hj).1
    have vi : ∀ i, i < ls.length → (ls[i]?).map (lineD b) = some (lineD b (ls.getD i Str.empty)) := fun i hi => by
      rw [List.getElem?_eq_getElem hi]
      simp [List.getD, List.getElem?_eq_getElem hi]
    have gi : ∀ i, i < ls.length → ls[i]? = some (ls.getD i Str.empty) := fun i hi => by
      rw [List.getElem?_eq_getElem hi]
      simp [List.getD, List.getElem?_eq_getElem hi]
    have fn : (enumD 0 (ls.map (lineD b))).length = ls.length := by rw [enumD_length, List.length_map]
    have W1 := @wBl_same C E
    let Wd : Hp → Prop := fun H => ∀ i : Nat, badAt b ls 0 0 = some i → wBl C E (i : Nat) H
    have hW : ∀ H H', Same H H' → Wd H → Wd H' := fun H H' s h i hi => W1 H H' s (h i hi)
    have body : PSs (cxOf (L2.CX P w) P w K mg base N45 "rising" (defScope (top 45)) f cdv A outer s H E) (defBody (top 45)) (fun Dn σ H => tS [some (.list (ls.map (lineD b))), some (.int (1 + iB b)), none, none, none] (fun _ => False) (fun q => badAt b ls 0 0 = none ∧ q = .tuple (ls.map (lineD b))) Dn σ H ∧ Wd H) := by
      refine dx_set 2 hW de_int ?_ sc45.nd
      refine (dx_for (ws := [3, 4]) u v z (badAt b ls 0 0) Wd hW hp rfl (di_enum T.enumerate (de_var 0 rfl)) (pg_tup rfl (pgs_cons (pg_name (i := 3) sc45.nd rfl (Or.inl rfl)) (pgs_cons (pg_name (i := 4) sc45.nd rfl (Or.inl rfl)) pgs_nil)) rfl rfl)
        bd (fun i d hd => ?_) (fun i B H σ E => (E.drop 3).drop 4) (fun i hi hlt => ?_) (fun i hb => ?_) (fun hn => ?_)).wkS fun Dn σ H q => ⟨q.1, fun i hi => q.2⟩
      · rw [enumD_get] at hd
        have hi : i < ls.length := by
          rw [List.getElem?_map] at hd
          cases e : ls[i]? with
          | none => rw [e] at hd; cases hd
          | some l => exact (List.getElem?_eq_some_iff.mp e).1
        rw [List.getElem?_map, gi i hi] at hd
        cases hd
        show GD _ (u i) _ (v i) _
        rw [show v i = ((u i).set 3 (some (.int ((0 + i : Nat) : Int)))).set 4 (some (lineD b (ls.getD i Str.empty))) from by
          rw [Nat.zero_add]
          show [_, _, _, _, (ls[i]?).map (lineD b)] = _
          rw [vi i hi]
          rfl]
        exact gd_pair
      · rw [fn] at hi
        obtain ⟨r, h1, h2, h3, h4⟩ := good_turn (b := b) (ls := ls) (i := i) (by
          cases eb : badAt b ls 0 0 with
          | none => exact bad_none eb i hi
          | some j => exact (bad_some eb).2.2 i (hlt j eb)) (gi i hi)
        obtain ⟨es, e1, e2⟩ := at_save (b := b) (r := r)
        have ev : v i = [some (.list (ls.map (lineD b))), some (.int (1 + iB b)), some (.int (lastAt b ls i)), some (.int (i : Nat)), some (.tuple es)] := by
          show [_, _, _, _, (ls[i]?).map (lineD b)] = _
          rw [vi i hi, h2, e1]
        have ez : z i = [some (.list (ls.map (lineD b))), some (.int (1 + iB b)), some (.int r.u), some (.int (i : Nat)), some (.tuple es)] := by
          show [_, _, some (.int (lastAt b ls (i + 1))), _, (ls[i]?).map (lineD b)] = _
          rw [vi i hi, h2, e1, h4]
        rw [ev, ez]
        refine ds_ifR (p := false) (dt_of (PW.pt (dw_or (dt_cmp op_isN od_isN (de_var 4 rfl) de_non rfl) (fun h => dw_or1 (dt_cmp op_le od_le (de_ixT e2 (de_var 4 rfl) (de_var 1 rfl)) (de_var 2 rfl) (nomark _))))) (by
          rw [decide_eq_false h3]; rfl)) (fun h => nomatch h) fun _ => ?_
        exact ds_set 2 (de_ixT e2 (de_var 4 rfl) (de_var 1 rfl)) (ds_nil rfl) sc45.nd
      · have hi := (bad_some hb).1
        have ev : v i = [some (.list (ls.map (lineD b))), some (.int (1 + iB b)), some (.int (lastAt b ls i)), some (.int (i : Nat)), some (lineD b (ls.getD i Str.empty))] := by
          show [_, _, _, _, (ls[i]?).map (lineD b)] = _
          rw [vi i hi]
        rw [ev]
        refine dx_if (tr := fun _ σ H => tMkBl C (tA [some (.list (ls.map (lineD b))), some (.int (1 + iB b)), some (.int (lastAt b ls i)), some (.int (i : Nat)), some (lineD b (ls.getD i Str.empty))] [.int (i : Nat)]) σ H fun cls d H' => E cls d H') ?_ (pss_one (ps_raiseBl (cc := cc) rfl TB hr tk (da_cons (de_var 3 rfl) da_nil))) hW (fun Dn σ H B D E k => ⟨B, D, E, fun vs H1 s1 rs => ?_⟩)
        · rcases bad_turn (bad_some hb).2.1 (gi i hi) with h | ⟨r, h, h3⟩
          · rw [h]
            exact dt_of (PW.pt (dw_or (q := true) (dt_cmp op_isN od_isN (de_var 4 rfl) de_non rfl) (fun h => nomatch h))) rfl
          · obtain ⟨es, e1, e2⟩ := at_save (b := b) (r := r)
            rw [h, e1]
            exact dt_of (PW.pt (dw_or (dt_cmp op_isN od_isN (de_var 4 rfl) de_non rfl) (fun h => dw_or1 (dt_cmp op_le od_le (de_ixT e2 (de_var 4 rfl) (de_var 1 rfl)) (de_var 2 rfl) (nomark _))))) (by rw [decide_eq_true h3]; rfl)
        · obtain ⟨x, e, rx⟩ := rs.one_inv
          cases rx
          exact ⟨.int (i : Nat), e, fun a ha => k i hb a _ (s1.trans (same_new ha)) upd_same⟩
      · exact ds_ret (de_tupL T.tuple (de_var 0 rfl)) ⟨hn, rfl⟩
    refine ⟨_, body, ⟨B, D, ?_, fun r' σ' H' e s1 _ => e.elim, fun d' v H' e s1 rv => ?_⟩, fun i hi => ?_⟩
    · have e := rs.length
      unfold L2.start
      rw [e]
      exact er_start 3 rs
    · obtain ⟨e1, e2⟩ := e
      subst e2
      have ed2 : d = .tuple (ls.map (lineD b)) := by rw [ed]; unfold riseD; rw [e1]
      rw [ed2] at kq
      exact kq (fun i z => nomatch z) v H' s1 rv
    · exact kx i (by rw [ed]; unfold riseD; rw [hi])
end
end Sv
/-! part X6 -/
set_option Elab.async false
set_option linter.all false
set_option maxRecDepth 100000
set_option maxHeartbeats 4000000
namespace Sv
open PySem PySem.Spec PyProof.Rows L2
/-- a call's reading that may raise -/
def tX (C : Addr) (E : XK) (r : Rho) (d : PyData) : TE := fun σ H Q => ∃ B, Dom B H ∧ Er B H r σ ∧ ((∀ i, d ≠ .int i) → ∀ v H', Same H H' → Rp B H' v d → Q v H') ∧ ∀ i, d = .int i → wBl C E i H
section
variable {X : Cx} {r : Rho} {d : PyData} {e : Expr} {es : List Expr} {ds : List PyData} {pos : Pos} {C : Addr} {E : XK}
theorem de_callX {k : Nat} {x : Str} {ps : List Str} {F : List PyData → PyData → Prop} {pp : Pos} (G : Has X.prog X.w X.K X.mg X.base (L2.CX X.prog X.w) k x ps (spX C F)) (h : F ds d) (hr : Room k X.A) (tk : Takes X (fun cls d _ H => E cls d H)) (ha : PA X (e :: es) (tA r ds)) (hg : Gl X x := by rfl) (hdb : (x == ("__debug__" : Str)) = false := by decide)
    (he : starEach (e :: es) X.env = (false, eval e X.env) :: starEach es X.env := by rfl) (hpl : (backTo pos (starEach es X.env)).any (·.1) = false := by rfl) : PE X (.Call (.Name x pp) (e :: es) [] pos) (tX C E r d) := by
  obtain ⟨f, fd, hm, hk, hb, Fk⟩ := G.ex
  refine (pe_call (E := E) Fk hr hg hm hk hb .nil (passes_call tk fun _ _ _ _ h => h) ha hdb he hpl).wkS fun σ H Q ⟨B, D, Er_, k, kx⟩ => ⟨B, D, Er_, fun vs H1 s1 rs => ?_⟩
  exact ⟨B, ds, d, D.same s1, by rw [List.append_nil]; exact rs, h, fun hd v H2 s2 rv => k hd v H2 (s1.trans s2) rv, fun i hi => wBl_same _ _ s1 (kx i hi)⟩
end
section
variable {P : Program} {w : World} {K : PySem.W.Frag} {mg : Str → Option Value} {base : Heap} {C : Addr}
theorem fn_okX {x : Str} {st : Stmt} {f : Addr} {fd : FuncData} {Nm ps : List Str} {k : Nat} {F : List PyData → PyData → Prop} (hF : FnP K x st f fd) (S : FnScope Nm ps (defScope st)) (len : ∀ ds d, F ds d → ds.length = ps.length)
    (body : ∀ (cdv : Value) (A : Around) (outer : List Env) (s : Shared) (H : Hp) (E : XK), Room k (A.deeper (envOfC x (defScope st) s.heap.objs.size f cdv)) → ∀ ds d, F ds d → Takes (cxOf (L2.CX P w) P w K mg base Nm x (defScope st) f cdv A outer s H E) (fun cls d _ H => E cls d H) →
      PSs (cxOf (L2.CX P w) P w K mg base Nm x (defScope st) f cdv A outer s H E) (defBody st) (fun Dn σ H => tX C E (rho0 Nm ds) d σ H Dn.rt)) : FnOk P w K mg base (L2.CX P w) (k + 1) f fd ps (spX C F) := by
  refine hF.ok S (fun vs H Q E h => ?_) (fun cdv A outer s H vs Q E hr h => ?_)
  · obtain ⟨B, ds, d, D, rs, hf, _⟩ := h
    exact rs.length.trans (len ds d hf)
  · obtain ⟨B, ds, d, D, rs, hf, kk, kx⟩ := h
    refine ⟨_, body cdv A outer s H E hr ds d hf (takes_of rfl rfl rfl rfl), B, D, ?_, kk, kx⟩
    have e := rs.length
    unfold L2.start rho0
    rw [e]
    exact er_start _ rs
abbrev N46 : List Str := ["text", "line"]
theorem sc46 : FnScope N46 ["text"] (defScope (top 46)) := ⟨rfl, rfl, rfl, by decide +kernel, rfl, by decide +kernel, by decide +kernel⟩
abbrev F46 (b : Bool) : List PyData → PyData → Prop := fun ds d => ∃ (z : Str), ds = [.str z] ∧ z.length ≤ 3000 ∧ d = sheetD b z
theorem lines_lim {z : Str} (h : z.length ≤ 3000) : (linesS z).length ≤ 3001 ∧ ∀ p ∈ linesS z, p.length ≤ 3000 := by
  unfold linesS
  split
  · exact ⟨by simp, fun p hp => by simp at hp⟩
  · obtain ⟨c1, c2, c3⟩ := cutS_ok (y := "\n") (by decide +kernel) (by decide +kernel) h
    exact ⟨c2, c1⟩
theorem ok_sessions_in {f : Addr} {fd : FuncData} (F : FnP K "sessions_in" (top 46) f fd) (T : Tx mg) (G44 : Hs P w K mg base 3 "lines_in" ["text"] F44) (G42 : Hs P w K mg base 3 "session_in" ["line"] F42) (G45 : HsX P w K mg base C 3 "rising" ["rows", "place"] F45) : FnOk P w K mg base (L2.CX P w) 4 f fd ["text"] (spX C (F46 false)) := by
  refine fn_okX F sc46 (fun ds d ⟨z, h, _⟩ => by rw [h]; rfl) fun cdv A outer s H E hr ds d hF tk => ?_
  obtain ⟨z, rfl, hz, rfl⟩ := hF
  obtain ⟨l1, l2⟩ := lines_lim hz
  refine (pss_one (ps_ret (de_callX (r := [some (.str z), none]) (d := sheetD false z) (E := E) G45 ⟨false, linesS z, rfl, l1, rfl⟩ hr tk (da_cons (de_of (LcOk.pe (lk_N (N0 := N46) (sc0 := defScope (top 46)) 1 (ds := (linesS z).map .str) (f := fun d => lineD false (strOfD d)) sc46.nd (by decide +kernel) ?_ (di_list (de_call G44 ⟨z, rfl, hz, rfl⟩ hr (da_cons (de_var 0 rfl) da_nil))) (fun d hd s H C cl fp => ?_)) rfl sc46.nd) (by rw [List.map_map]; rfl)) (da_cons (de_of de_int rfl) da_nil))))).wkS fun Dn σ H q => q
  · rw [List.length_map, sizeLine_eq]
    omega
  · obtain ⟨o, ho, e⟩ := List.mem_map.mp hd
    subst e
    exact de_call G42 ⟨o, rfl, l2 o ho, rfl⟩ hr (da_cons (de_var 1 rfl) da_nil)
abbrev N47 : List Str := ["text", "line"]
theorem sc47 : FnScope N47 ["text"] (defScope (top 47)) := ⟨rfl, rfl, rfl, by decide +kernel, rfl, by decide +kernel, by decide +kernel⟩
theorem ok_log_in {f : Addr} {fd : FuncData} (F : FnP K "log_in" (top 47) f fd) (T : Tx mg) (G44 : Hs P w K mg base 5 "lines_in" ["text"] F44) (G43 : Hs P w K mg base 5 "row_in" ["line"] F43) (G45 : HsX P w K mg base C 5 "rising" ["rows", "place"] F45) : FnOk P w K mg base (L2.CX P w) 6 f fd ["text"] (spX C (F46 true)) := by
  refine fn_okX F sc47 (fun ds d ⟨z, h, _⟩ => by rw [h]; rfl) fun cdv A outer s H E hr ds d hF tk => ?_
  obtain ⟨z, rfl, hz, rfl⟩ := hF
  obtain ⟨l1, l2⟩ := lines_lim hz
  refine (pss_one (ps_ret (de_callX (r := [some (.str z), none]) (d := sheetD true z) (E := E) G45 ⟨true, linesS z, rfl, l1, rfl⟩ hr tk (da_cons (de_of (LcOk.pe (lk_N (N0 := N47) (sc0 := defScope (top 47)) 1 (ds := (linesS z).map .str) (f := fun d => lineD true (strOfD d)) sc47.nd (by decide +kernel) ?_ (di_list (de_call G44 ⟨z, rfl, hz, rfl⟩ hr (da_cons (de_var 0 rfl) da_nil))) (fun d hd s H C cl fp => ?_)) rfl sc47.nd) (by rw [List.map_map]; rfl)) (da_cons (de_of (de_gint T.two) rfl) da_nil))))).wkS fun Dn σ H q => q
  · rw [List.length_map, sizeLine_eq]
    omega
  · obtain ⟨o, ho, e⟩ := List.mem_map.mp hd
    subst e
    exact de_call G43 ⟨o, rfl, l2 o ho, rfl⟩ hr (da_cons (de_var 1 rfl) da_nil)
end
end Sv
/-! part Z3 -/
set_option Elab.async false
set_option linter.all false
set_option maxRecDepth 100000
set_option maxHeartbeats 4000000
namespace Sv
open PySem PySem.Spec PyProof.Rows L2
section
variable {X : Cx} {r : Rho} {d d1 d2 : PyData} {e c : Expr} {es : List Expr} {ds : List PyData} {pos : Pos} {p : Bool} {B : List Addr} {sl : List (Nat × Addr)} {m : Hp → Prop} {A N M : As} {R : V → Hp → Prop} {st : Stmt} {rest b : List Stmt}
theorem er_lt {B : List Addr} {H : Hp} {r : Rho} {σ : L2.St} (E : Er B H r σ) {i : Nat} (h : i < r.length) : i < σ.length := by rw [E.length]; exact h
/-- x, y = [], e -/
theorem z_parL (i j : Nat) {x y : Str} {px py pt pt2 pl : Pos} {kt k2 : Nat} (G : Addr → Prop) (hG : ∀ H q, Dom B H → m H → H q = none → G q) (hm : Kp [] m) (hc : X.calm = true) (he : PE X e (tD r d)) (hr : ∀ q, G q → q ∉ B → PSs X rest (tZ (AD (q :: B) ((i, q) :: sl) (fun H => ML (q :: B) q [] H ∧ m H) ((r.set i none).set j (some d))) N R)) (hil : i < r.length) (hN : X.N.Nodup) (hsl : sl.all (fun q => !decide (q.1 = i)) = true := by rfl) (hsl2 : sl.all (fun q => !decide (q.1 = j)) = true := by rfl) (hi : X.N[i]? = some x := by rfl) (hj : X.N[j]? = some y := by rfl) (hij : i ≠ j := by decide)
    (hx : X.env.scope.names.lookup x = some .local := by rfl) (hy : X.env.scope.names.lookup y = some .local := by rfl) (hw : swappedStores [.Tuple [.Name x px, .Name y py] kt pt] (.Tuple [.List [] pl, e] k2 pt2) X.env = pure (some [x, y]) := by rfl)
    (hs : swapsWithSole [.Tuple [.Name x px, .Name y py] kt pt] (.Tuple [.List [] pl, e] k2 pt2) pos.line X.env = pure false := by rfl) (hst : starEach [.List [] pl, e] X.env = (false, eval (.List [] pl) X.env) :: starEach [e] X.env := by rfl) (hst2 : starEach [e] X.env = (false, eval e X.env) :: starEach [] X.env := by rfl) :
    PSs X (.Assign [.Tuple [.Name x px, .Name y py] kt pt] (.Tuple [.List [] pl, e] k2 pt2) pos :: rest) (tZ (AD B sl m r) N R) := by
  have h2 : PSs X rest (tZ (fun σ H => ∃ q, (G q ∧ q ∉ B) ∧ AD (q :: B) ((i, q) :: sl) (fun H => ML (q :: B) q [] H ∧ m H) ((r.set i none).set j (some d)) σ H) N R) := z_ex fun q hq => hr q hq.1 hq.2
  refine (pss_cons (ps_par hc hN hi hj hij hx hy (pa_cons (pe_lst pa_nil) (pa_cons he pa_nil hst2) hst) hw hs) h2).wkS fun Dn σ H ⟨a, k, k2⟩ => ?_
  refine ⟨Nat.zero_le _, fun q hq => ?_⟩
  have s := same_new (o := .lst []) hq
  refine ⟨q :: B, (a.1.same s).cons upd_same, (a.2.1.new hq).same s, fun v H2 s2 rv => ⟨.ref q, v, rfl, ?_⟩⟩
  have mk := AD.mk (i := i) (vs := []) (ds := []) a hm hq .nil hsl hil
  have mk2 : AD (q :: B) ((i, q) :: sl) (fun H => ML (q :: B) q [] H ∧ m H) (r.set i none) (σ.set i (some (.ref q))) H2 := by
    obtain ⟨D2, E2, S2, ⟨vs, e1, rs⟩, m2⟩ := mk
    exact ⟨D2.same s2, E2.same s2, S2, ⟨vs, s2 _ _ e1, rs.same s2⟩, hm.same s2 m2⟩
  refine ⟨⟨q, ⟨hG H q a.1 a.2.2.2 hq, a.1.out hq⟩, mk2.set rv ?_⟩, k, k2⟩
  rw [List.all_cons, hsl2, decide_eq_false hij]
  rfl
end
section
variable {P : Program} {w : World} {K : PySem.W.Frag} {mg : Str → Option Value} {base : Heap}
theorem okS_lines {z : Str} (h : okS z) : ∀ p ∈ linesS z, okS p := by
  unfold linesS
  split
  · intro p hp; simp at hp
  · exact okS_split (by decide +kernel) (by decide +kernel) h
theorem first_bad {b : Bool} {ls : List Str} {i : Nat} (hi : i < ls.length) (h : badT b ls i = true) (hb : ∀ j, j < i → badT b ls j = false) : badAt b ls 0 0 = some i := by
  cases e : badAt b ls 0 0 with
  | none => rw [bad_none e i hi] at h; cases h
  | some j =>
    obtain ⟨h1, h2, h3⟩ := bad_some e
    rcases Nat.lt_trichotomy i j with q | q | q
    · rw [h3 i q] at h; cases h
    · rw [q]
    · rw [hb j q] at h2; cases h2
theorem no_bad {b : Bool} {ls : List Str} (hb : ∀ j, j < ls.length → badT b ls j = false) : badAt b ls 0 0 = none := by
  cases e : badAt b ls 0 0 with
  | none => rfl
  | some j =>
    obtain ⟨h1, h2, h3⟩ := bad_some e
    rw [hb j h1] at h2; cases h2
theorem lines_list {X : Cx} {r : Rho} {z : Str} {a c : Expr} {pos : Pos} (h1 : PT X c (tT r (!decide (z = "")))) (h2 : PE X a (tD r (.list ((Txt.split z "\n").map .str)))) {b : Expr} (h3 : PE X b (tD r (.list []))) : PE X (.IfExp c a b pos) (tD r (.list ((linesS z).map .str))) := by
  refine de_of (de_if h1 (fun _ => h2) (fun _ => h3)) ?_
  unfold linesS
  by_cases h : z = ""
  · rw [if_pos h, decide_eq_true h]
    rfl
  · rw [if_neg h, decide_eq_false h]
    rfl
theorem ok_sheet_in {f : Addr} {fd : FuncData} (F : FnP K "_law_sheet_in" (top 67) f fd) (T : Tx mg) (G66 : Hs P w K mg base 3 "_law_line_in" ["_law_line_here", "_law_is_row"] F66) : FnOk P w K mg base CX0 4 f fd ["_law_sheet", "_law_is_row"] (spF F67) := by
  refine fn_okZ F sc67 (fun ds d ⟨z, b, h, _⟩ => by rw [h]; rfl) fun cdv A outer s H E hr ds d hF B H0 => ?_
  obtain ⟨z, b, rfl, hz, rfl⟩ := hF
  obtain ⟨l1, l2⟩ := lines_lim hz.1
  have lo := okS_lines hz
  show PSs _ _ (tZ (AD B [] (Keep [] H0) [some (.str z), some (.bool b), none, none, none, none, none]) _ _)
  have kb : Kp [] (Keep [] H0) := Kp.base fun b hb => by cases hb
  refine z_parL 2 3 (fun q => H0 q = none) (fun H q D k hq => ?_) kb rfl de_int (fun q hq0 hqB => ?_) (Nat.le_of_ble_eq_true rfl) sc67.nd
  · cases e : H0 q with
    | none => rfl
    | some o => rw [k q o (by simp) e] at hq; cases hq
  generalize hls : linesS z = ls
  have fnl : (enumD 0 (ls.map PyData.str)).length = ls.length := by rw [enumD_length, List.length_map]
  have gi : ∀ i, i < ls.length → ls[i]? = some (ls.getD i Str.empty) := fun i hi => by
    rw [List.getElem?_eq_getElem hi]
    simp [List.getD, List.getElem?_eq_getElem hi]
  have kq : Kp [q] (Keep [] H0) := Kp.base fun b hb => by
    rw [List.mem_singleton] at hb
    exact .inr (by rw [hb]; exact hq0)
  refine z_for (κ := Unit) (ws := [4, 5]) (fun i _ => ∀ j, j < i → badT b ls j = false) (fun i _ H => ML (q :: B) q ((ls.take i).map (lineD b)) H ∧ Keep [] H0 H) (fun i _ => [some (.str z), some (.bool b), none, some (.int (lastAt b ls i)), none, none, none]) (fun i _ => [some (.str z), some (.bool b), none, some (.int (lastAt b ls i)), some (.int (i : Nat)), some (.str (ls.getD i Str.empty)), none]) () (fun j hj => absurd hj (Nat.not_lt_zero _)) PassesOwn.never rfl
    (fun i _ => Kp.and (Kp.ml (by simp) (fun b hb => by cases hb)) kb) (di_enum T.enumerate (de_of (lines_list (dt_cmp op_ne od_neS (de_var 0 rfl) de_str (nomark _)) (de_split rfl (len2_lim hz.1) (de_var 0 rfl) de_str) (de_lst da_nil (Nat.zero_le _))) (by rw [hls])))
    (pg_tup rfl (pgs_cons (pg_name (i := 4) sc67.nd rfl (Or.inl rfl)) (pgs_cons (pg_name (i := 5) sc67.nd rfl (Or.inl rfl)) pgs_nil)) rfl rfl) (fun i _ d hd _ => ?_) rfl (fun fr hfr i _ hi hC => ?_) (fun _ hC => ?_)
  · rw [enumD_get] at hd
    have hi : i < ls.length := by
      rw [List.getElem?_map] at hd
      cases e : ls[i]? with
      | none => rw [e] at hd; cases hd
      | some l => exact (List.getElem?_eq_some_iff.mp e).1
    rw [List.getElem?_map, gi i hi] at hd
    cases hd
    rw [Nat.zero_add]
    exact gd_pair
  · rw [fnl] at hi
    have hl := gi i hi
    have lz : okS (ls.getD i Str.empty) := lo _ (by rw [hls]; exact List.mem_of_getElem? hl)
    have mfr : Kp [] (fun H => (ML (q :: B) q ((ls.take i).map (lineD b)) H ∧ Keep [] H0 H) ∧ fr H) := Kp.and (Kp.and (Kp.ml (by simp) (fun b hb => by cases hb)) kb) (hfr.less fun b hb => by cases hb)
    refine z_setD 6 mfr (de_call G66 ⟨ls.getD i Str.empty, b, rfl, lz, rfl⟩ hr (da_cons (de_var 5 rfl) (da_cons (de_var 1 rfl) da_nil))) ?_ sc67.nd
    cases hb : badT b ls i with
    | true =>
      have eS : sheetD b z = .int (i : Nat) := by
        rw [sheetD_rise, hls]
        unfold riseD
        rw [first_bad hi hb hC]
      rw [eS]
      rcases bad_turn hb hl with h | ⟨rw_, h, h3⟩
      · rw [h]
        exact z_ifR mfr (dt_of (PW.pt (dw_or (q := true) (dt_cmp op_isN od_isN (de_var 6 rfl) de_non rfl) (fun h => nomatch h))) rfl) (fun _ => z_ret (z_D (de_var 4 rfl) mfr) fun σ v H' q => ⟨q.1.2.2.2.1.2, q.2.less⟩) (fun h => nomatch h)
      · obtain ⟨es, e1, e2⟩ := at_save (b := b) (r := rw_)
        rw [h, e1]
        exact z_ifR (p := true) mfr (dt_of (PW.pt (dw_or (dt_cmp op_isN od_isN (de_var 6 rfl) de_non rfl) (fun h => dw_or1 (dt_cmp op_le od_le (de_ixT e2 (de_var 6 rfl) (de_of (de_bin op_add od_add de_int (de_intB T.int (de_var 1 rfl))) rfl)) (de_var 3 rfl) (nomark _))))) (by rw [decide_eq_true h3]; rfl)) (fun _ => z_ret (z_D (de_var 4 rfl) mfr) fun σ v H' q => ⟨q.1.2.2.2.1.2, q.2.less⟩) (fun h => nomatch h)
    | false =>
      obtain ⟨rw_, h1, h2, h3, h4⟩ := good_turn hb hl
      obtain ⟨es, e1, e2⟩ := at_save (b := b) (r := rw_)
      rw [h2, e1]
      refine z_ifR (p := false) mfr (dt_of (PW.pt (dw_or (dt_cmp op_isN od_isN (de_var 6 rfl) de_non rfl) (fun h => dw_or1 (dt_cmp op_le od_le (de_ixT e2 (de_var 6 rfl) (de_of (de_bin op_add od_add de_int (de_intB T.int (de_var 1 rfl))) rfl)) (de_var 3 rfl) (nomark _))))) (by rw [decide_eq_false h3]; rfl)) (fun h => nomatch h) (fun _ => ?_)
      refine z_setD 3 mfr (de_ixT e2 (de_var 6 rfl) (de_of (de_bin op_add od_add de_int (de_intB T.int (de_var 1 rfl))) rfl)) ?_ sc67.nd
      refine z_pre (A := AD (q :: B) [(2, q)] (fun H => ML (q :: B) q ((ls.take i).map (lineD b)) H ∧ (Keep [] H0 H ∧ fr H)) _) ?_ (fun σ H h => h.imp fun H q => ⟨q.1.1, q.1.2, q.2⟩)
      refine z_app 2 (List.mem_singleton.mpr rfl) List.mem_cons_self (Kp.and kq (hfr.less fun b hb => by rw [List.mem_singleton] at hb; rw [hb]; exact List.mem_cons_self)) (de_var 6 rfl) (by rw [List.length_map, List.length_take, sizeLine_eq]; rw [hls] at l1; omega) (z_nil fun σ H h => ⟨(), fun j hj => ?_, ?_⟩)
      · rcases Nat.lt_succ_iff_lt_or_eq.mp hj with q | q
        · exact hC j q
        · rw [q]; exact hb
      · have et : (ls.take (i + 1)).map (lineD b) = (ls.take i).map (lineD b) ++ [.tuple es] := by
          rw [List.take_succ, hl, List.map_append]
          show _ ++ [lineD b (ls.getD i Str.empty)] = _
          rw [h2, e1]
        have hh := ((h.drop 4).drop 5).drop 6
        rw [et]
        show AD (q :: B) [(2, q)] _ [some (.str z), some (.bool b), none, some (.int (lastAt b ls (i + 1))), none, none, none] σ H
        rw [h4]
        exact hh.imp fun H q => ⟨⟨q.1, q.2.1⟩, q.2.2⟩
  · rw [fnl] at hC
    rw [fnl, List.take_length]
    have eS : sheetD b z = .tuple (ls.map (lineD b)) := by
      rw [sheetD_rise, hls]
      unfold riseD
      rw [no_bad hC]
    rw [eS]
    exact z_frz 2 (List.mem_singleton.mpr rfl) hqB (z_ret (z_D (de_tupL T.tuple (de_var 2 rfl)) kb) fun σ v H' q => ⟨q.1.2.2.2, q.2⟩)
end
end Sv
/-! part G12 -/
set_option Elab.async false
set_option linter.all false
set_option maxRecDepth 100000
set_option maxHeartbeats 4000000
namespace Sv
open PySem PySem.Spec PyProof.Rows L2
section
variable {P : Program} {w : World} {K : PySem.W.Frag} {mg : Str → Option Value} {base : Heap}
/-! ### _law_line -/
abbrev N69 : List Str := ["_law_row", "_law_from_so", "_law_answer_so"]
theorem sc69 : FnScope N69 ["_law_row"] (defScope (top 69)) := ⟨rfl, rfl, rfl, by decide +kernel, rfl, by decide +kernel, by decide +kernel⟩
abbrev F69 : List PyData → PyData → Prop := fun ds d => ∃ (b : Bool) (r : Row), ds = [rowD b r] ∧ okR r ∧ d = .str (rowT b r)
theorem app_empty (z : Str) : z ++ Str.empty = z := TL.ext_tl (by rw [TL.tl_append]; show TL.tl z ++ [] = _; rw [List.append_nil])
theorem app_assoc (a b c : Str) : a ++ b ++ c = a ++ (b ++ c) := TL.ext_tl (by simp only [TL.tl_append, List.append_assoc])
theorem ok_line {f : Addr} {fd : FuncData} (F : FnP K "_law_line" (top 69) f fd) (T : Tx mg) : FnOk P w K mg base CX0 1 f fd ["_law_row"] (spF F69) := by
  refine fn_ok F sc69 (fun ds d ⟨b, r, h, _⟩ => by rw [h]; rfl) fun cdv A outer s H E hr ds d hF => ?_
  obtain ⟨b, r, rfl, ⟨hx, hy, hu, h4, h5⟩, rfl⟩ := hF
  have lx := len_txI hx
  have ly := len_txI hy
  have lu := len_txI hu
  have ln := join_names h4 h5
  have lo := open_len hx hy
  cases b with
  | false =>
    show PSs _ _ (tS [some (.tuple [.int r.x, .int r.u, namesD r.ns]), none, none] _ _)
    have a1 := add_fits (b := "-") lx (show ("-" : Str).length ≤ 1 by decide) (by decide)
    have a2 := add_fits a1.2 lu (by decide)
    have a3 := add_fits (b := " ") a2.2 (show (" " : Str).length ≤ 1 by decide) (by decide)
    have a4 := add_fits a3.2 ln (by decide)
    exact ds_ifR (p := true) (dt_of (dt_cmp op_eq od_eqI (de_lenT T.len (de_var 0 rfl)) de_int (nomark _)) rfl) (fun _ => ds_ret (de_bin op_add_str (od_addS a4.1) (de_bin op_add_str (od_addS a3.1) (de_bin op_add_str (od_addS a2.1) (de_bin op_add_str (od_addS a1.1) (de_strI T.str (log_ok hx) (de_ixT (d := .int r.x) rfl (de_var 0 rfl) de_int)) de_str) (de_strI T.str (log_ok hu) (de_ixT (d := .int r.u) rfl (de_var 0 rfl) de_int))) de_str)
      (de_join (Or.inr rfl) (join_fits h5 (by rw [show ("," : Str).length = 1 by rfl]; omega)) de_str (de_ixT (d := namesD r.ns) rfl (de_var 0 rfl) de_int))) rfl) (fun h => nomatch h)
  | true =>
    show PSs _ _ (tS [some (.tuple [.int r.x, .int r.y, .int r.u, namesD r.ns, ansD r.a]), none, none] _ _)
    have s1 := add_fits (a := "/") (show ("/" : Str).length ≤ 1 by decide) ly (by decide)
    have b1 := add_fits (b := "-") lo (show ("-" : Str).length ≤ 1 by decide) (by decide)
    have b2 := add_fits b1.2 lu (by decide)
    have b3 := add_fits (b := " ") b2.2 (show (" " : Str).length ≤ 1 by decide) (by decide)
    have b4 := add_fits b3.2 ln (by decide)
    have b5 := add_fits (b := " ") b4.2 (show (" " : Str).length ≤ 1 by decide) (by decide)
    have b6 := add_fits b5.2 (ansT_len r.a) (by decide)
    refine ds_ifR (p := false) (dt_of (dt_cmp op_eq od_eqI (de_lenT T.len (de_var 0 rfl)) de_int (nomark _)) rfl) (fun h => nomatch h) (fun _ => ?_)
    refine ds_set (d := .str (openT r)) 1 (de_of (de_bin op_add_str (od_addS ?_) (de_strI T.str (log_ok hx) (de_ixT (d := .int r.x) rfl (de_var 0 rfl) de_int)) (de_repS (p := !decide (r.x = r.y)) (de_bin op_add_str (od_addS s1.1) de_str (de_strI T.str (log_ok hy) (de_ixT (d := .int r.y) rfl (de_var 0 rfl) de_int))) (de_intB T.int (de_cmp op_ne od_neI (de_ixT (d := .int r.x) rfl (de_var 0 rfl) de_int) (de_ixT (d := .int r.y) rfl (de_var 0 rfl) de_int) (nomark _))))) ?_) ?_ sc69.nd
    · have hl : (if (!decide (r.x = r.y)) = true then ("/" : Str) ++ txI r.y else Str.empty).length ≤ 11 := by
        split
        · exact s1.2
        · exact Nat.zero_le _
      exact (add_fits lx hl (by decide)).1
    · unfold openT
      by_cases h : r.x = r.y
      · rw [if_pos h, decide_eq_true h]
        show PyData.str (txI r.x ++ Str.empty) = _
        rw [app_empty]
      · rw [if_neg h, decide_eq_false h]
        show PyData.str (txI r.x ++ ("/" ++ txI r.y)) = _
        rw [app_assoc]
    · refine ds_set (d := .str (ansT r.a)) 2 (de_of (d := if isN (ansD r.a) then .str "?" else .str (ansT r.a)) (de_if (dt_cmp op_isN od_isN (de_ixT (d := ansD r.a) rfl (de_var 0 rfl) de_int) de_non rfl) (fun _ => de_str) (fun h => ?_)) ?_) ?_ sc69.nd
      · cases ha : r.a with
        | none => rw [ha] at h; exact nomatch h
        | some c =>
          refine de_ixL (ds := [.str "no", .str "yes"]) (i := if c then 1 else 0) (by cases c <;> rfl) (de_lst (da_cons de_str (da_cons de_str da_nil)) (sz_ok rfl)) (de_intB T.int (de_ixT (d := .bool c) ?_ (de_var 0 rfl) de_int))
          rfl
      · cases r.a <;> rfl
      · exact ds_ret (de_bin op_add_str (od_addS b6.1) (de_bin op_add_str (od_addS b5.1) (de_bin op_add_str (od_addS b4.1) (de_bin op_add_str (od_addS b3.1) (de_bin op_add_str (od_addS b2.1) (de_bin op_add_str (od_addS b1.1) (de_var 1 rfl) de_str) (de_strI T.str (log_ok hu) (de_ixT (d := .int r.u) rfl (de_var 0 rfl) de_int))) de_str)
          (de_join (Or.inr rfl) (join_fits h5 (by rw [show ("," : Str).length = 1 by rfl]; omega)) de_str (de_ixT (d := namesD r.ns) rfl (de_var 0 rfl) de_int))) de_str) (de_var 2 rfl)) rfl
end
end Sv
/-! part X7 -/
set_option Elab.async false
set_option linter.all false
set_option maxRecDepth 100000
set_option maxHeartbeats 4000000
namespace Sv
open PySem PySem.Spec PyProof.Rows L2
theorem vals_one {zs : List V} {ws : List Value} (r : Vals zs ws) (h : zs.length = 1) : ∃ z u, zs = [z] ∧ ws = [u] ∧ RelV z u := by
  cases r with
  | nil => simp at h
  | cons rv rs =>
    cases rs with
    | nil => exact ⟨_, _, rfl, rfl, rv⟩
    | cons _ _ => simp at h
/-- a def of one parameter that is also called by its keyword -/
structure HasKw (P : Program) (w : World) (K : PySem.W.Frag) (mg : Str → Option Value) (base : Heap) (CX : CXT) (k : Nat) (x p : Str) (sp : Sp) : Prop where
  ex : ∃ (f : Addr) (fd : FuncData), mg x = some (.ref f) ∧ PySem.W.keepIn K (.ref f) = true ∧ Binds K fd [p] [] ∧ FnOk P w K mg base CX k f fd [p] sp ∧ ∀ (s : Shared) (u : Value), BindsTo s fd ⟨[], [(p, u)]⟩ [(p, u)]
theorem HasKw.has {P : Program} {w : World} {K : PySem.W.Frag} {mg : Str → Option Value} {base : Heap} {CX : CXT} {k : Nat} {x p : Str} {sp : Sp} (h : HasKw P w K mg base CX k x p sp) : Has P w K mg base CX k x [p] sp := by
  obtain ⟨f, fd, h1, h2, h3, h4, _⟩ := h.ex
  exact ⟨f, fd, h1, h2, h3, h4⟩
theorem HasKw.mono {P : Program} {w : World} {K : PySem.W.Frag} {mg : Str → Option Value} {base : Heap} {CX : CXT} {j k : Nat} {x p : Str} {sp : Sp} (h : HasKw P w K mg base CX j x p sp) (l : j ≤ k) : HasKw P w K mg base CX k x p sp := by
  obtain ⟨f, fd, h1, h2, h3, h4, h5⟩ := h.ex
  exact ⟨f, fd, h1, h2, h3, h4.mono l, h5⟩
section
variable {X : Cx} {CX : CXT} {k : Nat} {x p : Str} {sp : Sp} {e : Expr} {te : TE} {pp kp pos : Pos} {r : Rho} {d d0 : PyData} {C : Addr} {W : WX}
/-- x(p = e) -/
theorem pe_callKwS {E : L2.St → XK} (G : HasKw X.prog X.w X.K X.mg X.base CX k x p sp) (hr : Room k X.A) (hx : ∀ σ, PassesAt CX X σ (E σ)) (he : PE X e te) (hg : Gl X x := by rfl) (hdb : (x == ("__debug__" : Str)) = false := by decide)
    (hall : (backToKw pos (keywordEach [⟨some p, e, kp⟩] X.env)).all (·.1.isSome) = true := by rfl) (hks : (backToKw pos (keywordEach [⟨some p, e, kp⟩] X.env)).filterMap (·.1) = [p] := by rfl)
    (hpl : ((backTo pos (starEach [] X.env)).any (·.1) || (backToKw pos (keywordEach [⟨some p, e, kp⟩] X.env)).any (·.1.isNone)) = false := by rfl) :
    PE X (.Call (.Name x pp) [] [⟨some p, e, kp⟩] pos) (tCallS sp E (tCons te tNil)) := by
  obtain ⟨f, fd, hm, hk, hb, F, kb⟩ := G.ex
  refine ⟨fun pins s σ H Q I h => ?_⟩
  refine wpAny_Call_Name_kw (ld_glob I hg hm ?_ hdb)
  refine PySem.W.callWith_KW0 (h₀ := X.base) I.ok.mod.kin hk hall (thn ((pk_cons he pk_nil).run pos pins s σ H _ I h) fun ws s1 ⟨zs, H1, I1, rz, q⟩ => ⟨I1.kIn, ?_⟩) hpl
  rw [hks]
  have lz : zs.length = 1 := F.len _ _ _ _ q
  obtain ⟨z, u, ez, eu, rv⟩ := vals_one rz lz
  subst ez
  subst eu
  show wpAny _ _ (call (.ref f) [] [(p, u)]) _ _ _
  refine wpAny_call (codeAny_mono (F.run X.A X.stack s1 H1 ⟨[], [(p, u)]⟩ [u] [z] Q (E σ) hr I1.env0 (kb s1 u) (.cons rv .nil) q) fun rr s' hq => ?_)
  cases rr with
  | error e => exact hx σ pins H1 s1 e s' I1 hq
  | ok fl =>
    cases fl with
    | ret u => exact I1.after hq
    | next => exact False.elim hq
    | brk => exact False.elim hq
    | cont => exact False.elim hq
/-- the same by data, nothing let out -/
theorem de_callKw {F : List PyData → PyData → Prop} (G : HasKw X.prog X.w X.K X.mg X.base CX0 k x p (spF F)) (h : F [d0] d) (hr : Room k X.A) (he : PE X e (tD r d0)) (hg : Gl X x := by rfl) (hdb : (x == ("__debug__" : Str)) = false := by decide)
    (hall : (backToKw pos (keywordEach [⟨some p, e, kp⟩] X.env)).all (·.1.isSome) = true := by rfl) (hks : (backToKw pos (keywordEach [⟨some p, e, kp⟩] X.env)).filterMap (·.1) = [p] := by rfl)
    (hpl : ((backTo pos (starEach [] X.env)).any (·.1) || (backToKw pos (keywordEach [⟨some p, e, kp⟩] X.env)).any (·.1.isNone)) = false := by rfl) : PE X (.Call (.Name x pp) [] [⟨some p, e, kp⟩] pos) (tD r d) :=
  (pe_callKwS (E := fun _ => E0) G hr (fun _ _ _ _ _ _ _ z => z.elim) he hg hdb hall hks hpl).wkS fun σ H Q ⟨B, D, Er_, k⟩ => ⟨B, D, Er_, fun v H1 s1 rv => ⟨B, [d0], d, D.same s1, .cons rv .nil, h, fun v H2 s2 rv => k v H2 (s1.trans s2) rv⟩⟩
/-- .. that may raise, where W takes what comes -/
def tXS (C : Addr) (W : WX) (r : Rho) (d : PyData) : TE := fun σ H Q => ∃ B, Dom B H ∧ Er B H r σ ∧ ((∀ i, d ≠ .int i) → ∀ v H', Same H H' → Rp B H' v d → Q v H') ∧ ∀ i, d = .int i → wBl C (WE W σ) i H
theorem de_callKwX {F : List PyData → PyData → Prop} (G : HasKw X.prog X.w X.K X.mg X.base (L2.CX X.prog X.w) k x p (spX C F)) (h : F [d0] d) (hr : Room k X.A) (tk : Takes X W) (he : PE X e (tD r d0)) (hg : Gl X x := by rfl) (hdb : (x == ("__debug__" : Str)) = false := by decide)
    (hall : (backToKw pos (keywordEach [⟨some p, e, kp⟩] X.env)).all (·.1.isSome) = true := by rfl) (hks : (backToKw pos (keywordEach [⟨some p, e, kp⟩] X.env)).filterMap (·.1) = [p] := by rfl)
    (hpl : ((backTo pos (starEach [] X.env)).any (·.1) || (backToKw pos (keywordEach [⟨some p, e, kp⟩] X.env)).any (·.1.isNone)) = false := by rfl) : PE X (.Call (.Name x pp) [] [⟨some p, e, kp⟩] pos) (tXS C W r d) :=
  (pe_callKwS (E := WE W) G hr (passAt tk) he hg hdb hall hks hpl).wkS fun σ H Q ⟨B, D, Er_, k, kx⟩ => ⟨B, D, Er_, fun v H1 s1 rv => ⟨B, [d0], d, D.same s1, .cons rv .nil, h, fun hd v H2 s2 rv => k hd v H2 (s1.trans s2) rv, fun i hi => wBl_same _ _ s1 (kx i hi)⟩⟩
theorem de_ifX {c a b : Expr} {q : Bool} (hc : PT X c (tT r q)) (ha : q = true → PE X a (tXS C W r d)) (hb : q = false → PE X b (tXS C W r d)) : PE X (.IfExp c a b pos) (tXS C W r d) := by
  refine ⟨fun pins s σ H Q I h => ?_⟩
  obtain ⟨B, D, E, k, kx⟩ := h
  refine wpAny_IfExp (thn (hc.run pins s σ H (fun c H1 => c = q ∧ Same H H1) I ⟨B, D, E, fun H1 s => ⟨rfl, s⟩⟩) fun c s1 ⟨H1, I1, e1, s1'⟩ => ?_)
  subst e1
  have nx : tXS C W r d σ H1 Q := ⟨B, D.same s1', E.same s1', fun hd v H2 s2 rv => k hd v H2 (s1'.trans s2) rv, fun i hi => wBl_same _ _ s1' (kx i hi)⟩
  cases c with
  | true => exact (ha rfl).run pins s1 σ H1 Q I1 nx
  | false => exact (hb rfl).run pins s1 σ H1 Q I1 nx
theorem PSs.or {b : List Stmt} {t u : TS} (h1 : PSs X b t) (h2 : PSs X b u) : PSs X b (fun D σ H => t D σ H ∨ u D σ H) := ⟨fun pins s σ H D I q => q.elim (fun q => h1.run pins s σ H D I q) fun q => h2.run pins s σ H D I q⟩
end
end Sv
/-! part X8 -/
set_option Elab.async false
set_option linter.all false
set_option maxRecDepth 100000
set_option maxHeartbeats 4000000
namespace Sv
open PySem PySem.Spec PyProof.Rows L2
/-- the three classes of errors -/
structure ExTxt (K : PySem.W.Frag) (mg : Str → Option Value) (C : Addr) : Prop where
  ex : ∃ c2 c3 : Addr, mg "NoSession" = some (.ref c2) ∧ mg "NoStory" = some (.ref c3) ∧ PySem.W.exmAny K (.ref C) [.ref C, .ref c2, .ref c3] = some true
  is : IsC K C
  k1 : PySem.W.kitOne K (.ref C) (.ref C) = some true
  k2 : PySem.W.kitOne K (.ref C) (.type "ValueError") = some true
theorem er_len {B : List Addr} {H : Hp} {r : Rho} {σ : L2.St} (E : Er B H r σ) {i : Nat} (h : i < r.length) : i < σ.length := by rw [E.length]; exact h
section
variable {P : Program} {w : World} {K : PySem.W.Frag} {mg : Str → Option Value} {base : Heap} {C fI cc co : Addr}
abbrev N68 : List Str := ["_law_sheet", "_law_is_row", "_law_caught", "_law_found", "error"]
theorem sc68 : FnScope N68 ["_law_sheet", "_law_is_row"] (defScope (top 68)) := ⟨rfl, rfl, rfl, by decide +kernel, rfl, by decide +kernel, by decide +kernel⟩
abbrev F68 : List PyData → PyData → Prop := fun ds d => ∃ (z : Str) (b : Bool), ds = [.str z, .bool b] ∧ z.length ≤ 3000 ∧ d = sheetD b z
theorem sheet_cases (b : Bool) (z : Str) : (∃ i, sheetD b z = .int i) ∨ ∀ i, sheetD b z ≠ .int i := by
  unfold sheetD
  cases badAt b (linesS z) 0 0 with
  | some i => exact .inl ⟨_, rfl⟩
  | none => exact .inr fun i h => nomatch h
theorem ok_heard {f : Addr} {fd : FuncData} (F : FnP K "_law_heard" (top 68) f fd) (T : Tx mg) (TB : BlTxt P K mg C fI cc co) (TE : ExTxt K mg C) (G46 : HasKw P w K mg base (L2.CX P w) 6 "sessions_in" "text" (spX C (F46 false))) (G47 : HasKw P w K mg base (L2.CX P w) 6 "log_in" "text" (spX C (F46 true))) :
    FnOk P w K mg base CX0 7 f fd ["_law_sheet", "_law_is_row"] (spF F68) := by
  refine fn_ok F sc68 (fun ds d ⟨z, b, h, _⟩ => by rw [h]; rfl) fun cdv A outer s H E hr ds d hF => ?_
  obtain ⟨z, b, rfl, hz, rfl⟩ := hF
  obtain ⟨c2, c3, m2, m3, hex⟩ := TE.ex
  show PSs _ _ (tS [some (.str z), some (.bool b), none, none, none] _ _)
  -- behind the try: nothing caught
  have rest1 : ∀ d, PSs (cxOf CX0 P w K mg base N68 "_law_heard" (defScope (top 68)) f cdv A outer s H E).nox ((defBody (top 68)).drop 2) (tS [some (.str z), some (.bool b), some .none, some d, none] (fun _ => False) (fun v => v = d)) := fun d =>
    ds_ifR (dt_cmp op_isN od_isN (de_var 2 rfl) de_non rfl) (fun _ => ds_ret (de_var 3 rfl) rfl) (fun h => nomatch h)
  -- an error caught
  have rest2 : ∀ i : Int, PSs (cxOf CX0 P w K mg base N68 "_law_heard" (defScope (top 68)) f cdv A outer s H E).nox ((defBody (top 68)).drop 2) (fun Dn σ H => ∃ a dd : Addr, σ[2]? = some (some (.ref a)) ∧ H a = some (ExK (.ref C) (some dd) a) ∧ H dd = some (.xd [(("number" : Str), V.int i)]) ∧ Dn.rt (.int i) H) := fun i => by
    refine (pss_cons (ps_if (pt_cmpR op_isN (pe_var (i := 2) rfl (Or.inl rfl)) pe_non rfl) (pss_one (ps_ret (pe_var (i := 3) rfl (Or.inl rfl)))) pss_nil)
      (pss_one (ps_ret (pe_ifExp (PW.pt (pw_and (pt_val (pe_callB call_isK (by rfl) T.isinstance (by decide +kernel) (pa_cons (pe_var (i := 2) rfl (Or.inl rfl)) (pa_cons (pe_glob (v := .ref C) (by rfl) TB.gC rfl) pa_nil)))) (pw_and1 (pt_val (pe_callB call_isK (by rfl) T.isinstance (by decide +kernel) (pa_cons (pe_var (i := 2) rfl (Or.inl rfl)) (pa_cons (pe_bltn (v := .ty "ValueError") (by rfl) T.valueError (by decide +kernel) rfl) pa_nil)))))))
        (pe_exf (pe_var (i := 2) rfl (Or.inl rfl))) pe_str)))).wkS fun Dn σ H ⟨a, dd, hσ, ha, hd, q⟩ => ?_
    refine ⟨.ref a, hσ, rfl, false, rfl, ?_⟩
    refine ⟨.ref a, hσ, a, C, dd, _, .ref C, .ref C, true, rfl, ha, hd, TE.is, fun u h => h, TE.k1, true, rfl, ?_⟩
    refine ⟨.ref a, hσ, a, C, dd, _, .ty "ValueError", .type "ValueError", true, rfl, ha, hd, TE.is, fun u h => h, TE.k2, true, rfl, ?_⟩
    exact ⟨.ref a, hσ, a, C, dd, _, .int i, rfl, ha, hd, TE.is, TB.noN, rfl, q⟩
  refine ds_unp [2, 3] (pgs_ns_cons sc68.nd (pgs_ns_cons sc68.nd pgs_ns_nil)) rfl (de_tup (da_cons de_non (da_cons de_non da_nil)) (sz_ok rfl)) ?_ rfl
  refine (pss_cons (ps_try_keep (i := 4) (j := 2) (tb := fun W D σ H => ∃ B, Dom B H ∧ Er B H [some (.str z), some (.bool b), some .none, some .none, none] σ ∧ ((∀ i, sheetD b z ≠ .int i) → ∀ v H', Same H H' → Rp B H' v (sheetD b z) → D.nx (σ.set 3 (some v)) H') ∧ ∀ i, sheetD b z = .int i → wBl C (WE W σ) i H)
    (by rfl) (by rfl) (by rfl) sc68.nd (by rfl) (by rfl) (by decide) (by rfl) (by rfl) TB.gC m2 m3 (by rfl) (by rfl) (by rfl) (by decide) (by decide) (by decide) (by decide) (by decide) (by rfl) (by rfl) (by rfl) (by rfl) (fun W pn xe tk hp => (pss_one (ps_set (i := 3) sc68.nd rfl (Or.inl rfl) (de_ifX (dt_val (de_var 1 rfl)) (fun h => de_callKwX (F := F46 true) G47 ⟨z, rfl, hz, by rw [h]⟩ hr tk (de_var 0 rfl)) (fun h => de_callKwX (F := F46 false) G46 ⟨z, rfl, hz, by rw [h]⟩ hr tk (de_var 0 rfl))) rfl (Or.inr rfl))).wkS fun D σ H q => q))
    (PSs.or (rest1 (sheetD b z)) (PSs.ex (C := fun _ : Int => True) fun i _ => rest2 i))).wkS fun Dn σ H ⟨B, D, E, k, k2⟩ => ?_
  refine ⟨B, D, E, fun hd v H1 s1 rv => .inl ⟨B, D.same s1, (E.same s1).set rv 3, fun r' σ' H' n _ _ => n.elim, fun d v H' q s2 rv => k2 d v H' q (s1.trans s2) rv⟩, fun i hi dd H1 s1 hx => ⟨hex, fun a ha => .inr ⟨i, trivial, a, dd, ?_, upd_same, ?_, ?_⟩⟩⟩
  · have l2 : 2 < σ.length := er_len E (Nat.le_of_ble_eq_true rfl)
    rw [List.getElem?_set_ne (by decide), List.getElem?_set_self l2]
  · rw [upd_ne (ne_of_none hx ha)]
    exact hx
  · exact k2 (.int i) (.int i) _ hi.symm (s1.trans (same_new ha)) (.int i)
end
end Sv
/-! part Z4 -/
set_option Elab.async false
set_option linter.all false
set_option maxRecDepth 100000
set_option maxHeartbeats 4000000
namespace Sv
open PySem PySem.Spec PyProof.Rows L2
def okB : Nat → PyData → Bool
  | 0, d => flatD d
  | n + 1, .list ds => decide (ds.length ≤ 3001) && ds.all (okB n)
  | n + 1, .tuple ds => decide (ds.length ≤ 3001) && ds.all (okB n)
  | _ + 1, d => flatD d
theorem okB_ok : ∀ {n : Nat} {d : PyData}, okB n d = true → okD n d
  | 0, d, h => h
  | n + 1, .list ds, h => by
    obtain ⟨h1, h2⟩ := Bool.and_eq_true_iff.mp (show (decide (ds.length ≤ 3001) && ds.all (okB n)) = true from h)
    exact .inr ⟨ds, .inl rfl, of_decide_eq_true h1, fun x hx => okB_ok (List.all_eq_true.mp h2 x hx)⟩
  | n + 1, .tuple ds, h => by
    obtain ⟨h1, h2⟩ := Bool.and_eq_true_iff.mp (show (decide (ds.length ≤ 3001) && ds.all (okB n)) = true from h)
    exact .inr ⟨ds, .inr rfl, of_decide_eq_true h1, fun x hx => okB_ok (List.all_eq_true.mp h2 x hx)⟩
  | n + 1, .none, h => .inl rfl
  | n + 1, .bool _, h => .inl rfl
  | n + 1, .int _, h => .inl rfl
  | n + 1, .str _, h => .inl rfl
theorem okD_tup {n : Nat} {ds : List PyData} (h1 : ds.length ≤ 3001) (h2 : ∀ x ∈ ds, okD n x) : okD (n + 1) (.tuple ds) := .inr ⟨ds, .inr rfl, h1, h2⟩
theorem okD_lst {n : Nat} {ds : List PyData} (h1 : ds.length ≤ 3001) (h2 : ∀ x ∈ ds, okD n x) : okD (n + 1) (.list ds) := .inr ⟨ds, .inl rfl, h1, h2⟩
theorem okD_ans {n : Nat} (a : Option Bool) : okD n (ansD a) := okD_flat (by cases a <;> rfl)
theorem okD_names {ns : List Str} (h : ns.length ≤ 3001) : okD 1 (namesD ns) := okD_tup (by rw [List.length_map]; exact h) fun x hx => by
  obtain ⟨z, _, e⟩ := List.mem_map.mp hx
  subst e
  rfl
theorem okD_row {b : Bool} {r : Row} (h : r.ns.length ≤ 3001) : okD 2 (rowD b r) := by
  cases b with
  | false =>
    refine okD_tup (by show 3 ≤ 3001; decide) fun x hx => ?_
    simp only [List.mem_cons, List.not_mem_nil, or_false] at hx
    rcases hx with e | e | e <;> subst e
    · exact .inl rfl
    · exact .inl rfl
    · exact okD_names h
  | true =>
    refine okD_tup (by show 5 ≤ 3001; decide) fun x hx => ?_
    simp only [List.mem_cons, List.not_mem_nil, or_false] at hx
    rcases hx with e | e | e | e | e <;> subst e
    · exact .inl rfl
    · exact .inl rfl
    · exact .inl rfl
    · exact okD_names h
    · exact okD_ans _
theorem lineO_ns {b : Bool} {z : Str} {r : Row} (h : lineO b z = some r) (hz : z.length ≤ 3000) : r.ns.length ≤ 3001 := by
  obtain ⟨c1, c2, c3⟩ := cutS_ok (y := " ") (by decide +kernel) (by decide +kernel) hz
  have key : ∀ w1, w1 ∈ Txt.split z " " → (Txt.split w1 ",").length ≤ 3001 := fun w1 hw => (okNs_split (c1 w1 hw)).2.1
  unfold lineO at h
  split at h
  · rename_i w0 w1 e
    split at h
    · split at h
      · cases h
        exact key w1 (by rw [e]; simp)
      · cases h
    · cases h
  · rename_i w0 w1 w2 e
    split at h
    · split at h
      · cases h
        exact key w1 (by rw [e]; simp)
      · cases h
    · cases h
  · cases h
theorem okD_sheet {b : Bool} {z : Str} (hz : z.length ≤ 3000) : okD 3 (sheetD b z) := by
  obtain ⟨l1, l2⟩ := lines_lim hz
  unfold sheetD
  cases badAt b (linesS z) 0 0 with
  | some i => exact .inl rfl
  | none =>
    refine okD_tup (by rw [List.length_map]; exact l1) fun x hx => ?_
    obtain ⟨l, hl, e⟩ := List.mem_map.mp hx
    subst e
    unfold lineD
    cases eo : lineO b l with
    | none => exact .inl rfl
    | some r => exact okD_row (lineO_ns eo (l2 l hl))
section
variable {X : Cx} {r : Rho} {d : PyData} {e : Expr} {es : List Expr} {ds : List PyData} {pos : Pos} {C : Addr}
/-- texts as they are written -/
def strsOf : List Expr → Option (List Str)
  | [] => some []
  | .Constant (.str z) _ _ :: es => (strsOf es).map (z :: ·)
  | _ => none
theorem da_strs : ∀ {es : List Expr} {zs : List Str}, strsOf es = some zs → PA X es (tA r (zs.map .str))
  | [], zs, h => by
    cases h
    exact da_nil
  | .Constant (.str z) k p :: es, zs, h => by
    cases e : strsOf es with
    | none => simp [strsOf, e] at h
    | some ys =>
      simp [strsOf, e] at h
      subst h
      exact da_cons de_str (da_strs e)
  | .Constant (.int _) _ _ :: es, zs, h => by cases h
  | .Constant (.bool _) _ _ :: es, zs, h => by cases h
  | .Constant .none _ _ :: es, zs, h => by cases h
/-- a call that may raise and does not -/
theorem de_callN {k : Nat} {x : Str} {ps : List Str} {F : List PyData → PyData → Prop} {pp : Pos} (G : Has X.prog X.w X.K X.mg X.base (L2.CX X.prog X.w) k x ps (spX C F)) (h : F ds d) (hd : ∀ i, d ≠ .int i) (hr : Room k X.A) (ha : PA X (e :: es) (tA r ds)) (hg : Gl X x := by rfl) (hdb : (x == ("__debug__" : Str)) = false := by decide)
    (he : starEach (e :: es) X.env = (false, eval e X.env) :: starEach es X.env := by rfl) (hpl : (backTo pos (starEach es X.env)).any (·.1) = false := by rfl) : PE X (.Call (.Name x pp) (e :: es) [] pos) (tD r d) := (de_callX (E := E0) G h hr takes0 ha hg hdb he hpl).wkS fun σ H Q ⟨B, D, E, k⟩ => ⟨B, D, E, fun _ => k, fun i hi => absurd hi (hd i)⟩
theorem de_call0 {k : Nat} {x : Str} {F : List PyData → PyData → Prop} {pp : Pos} (G : Has X.prog X.w X.K X.mg X.base CX0 k x [] (spF F)) (h : F [] d) (hr : Room k X.A) (hg : Gl X x := by rfl) (hdb : (x == ("__debug__" : Str)) = false := by decide) : PE X (.Call (.Name x pp) [] [] pos) (tD r d) := by
  obtain ⟨f, fd, hm, hk, hb, Fk⟩ := G.ex
  exact (pe_call0 Fk hr hg hm hk hb .nil pass0 hdb).wkS (fun σ H Q ⟨B, D, E, k⟩ => ⟨B, [], d, D, .nil, h, fun v H2 s2 rv => k v H2 s2 rv⟩)
end
end Sv
/-! part Z6 -/
set_option Elab.async false
set_option linter.all false
set_option maxRecDepth 100000
set_option maxHeartbeats 4000000
namespace Sv
open PySem PySem.Spec PyProof.Rows L2
section
variable {X : Cx} {r : Rho} {d d1 d2 : PyData} {e c a o : Expr} {es : List Expr} {ds : List PyData} {pos : Pos} {p : Bool} {B : List Addr} {sl : List (Nat × Addr)} {m : Hp → Prop} {A N M : As} {R : V → Hp → Prop} {st : Stmt} {rest b : List Stmt} {q : Addr}
/-! numbers -/
theorem od_mul {i j : Int} (h : (-(2 ^ 64) < i ∧ i < 2 ^ 64) ∨ (-(2 ^ 64) < j ∧ j < 2 ^ 64)) : OpD (rI CMul fun i j => .int (i * j)) (.int i) (.int j) (.int (i * j)) := od_IC (k := fun i j => .int (i * j)) h fun _ _ => .int _
theorem od_mod {i j : Int} (h : 0 < j) : OpD (rI (fun _ j => 0 < j) fun i j => .int (i % j)) (.int i) (.int j) (.int (i % j)) := od_IC (C := fun _ j => 0 < j) (k := fun i j => .int (i % j)) h fun _ _ => .int _
theorem od_fdiv {i j : Int} (h : 0 < j ∧ j < 1073741824) : OpD (rI CDiv fun i j => .int (i / j)) (.int i) (.int j) (.int (i / j)) := od_IC (C := CDiv) (k := fun i j => .int (i / j)) h fun _ _ => .int _
theorem de_mul {i j : Int} (h : (-(2 ^ 64) < i ∧ i < 2 ^ 64) ∨ (-(2 ^ 64) < j ∧ j < 2 ^ 64)) (ha : PE X a (tD r (.int i))) (hb : PE X c (tD r (.int j))) : PE X (.BinOp a .Mult c pos) (tD r (.int (i * j))) := de_bin op_mul (od_mul h) ha hb
theorem de_mod {i j : Int} (h : 0 < j) (ha : PE X a (tD r (.int i))) (hb : PE X c (tD r (.int j))) : PE X (.BinOp a .Mod c pos) (tD r (.int (i % j))) := de_bin op_mod (od_mod h) ha hb
theorem de_fdiv {i j : Int} (h : 0 < j ∧ j < 1073741824) (ha : PE X a (tD r (.int i))) (hb : PE X c (tD r (.int j))) : PE X (.BinOp a .FloorDiv c pos) (tD r (.int (i / j))) := de_bin op_fdiv (od_fdiv h) ha hb
theorem de_add {i j : Int} (ha : PE X a (tD r (.int i))) (hb : PE X c (tD r (.int j))) : PE X (.BinOp a .Add c pos) (tD r (.int (i + j))) := de_bin op_add od_add ha hb
theorem de_sub {i j : Int} (ha : PE X a (tD r (.int i))) (hb : PE X c (tD r (.int j))) : PE X (.BinOp a .Sub c pos) (tD r (.int (i - j))) := de_bin op_sub od_sub ha hb
theorem de_intI {pp : Pos} {i : Int} (hm : X.mg "int" = none) (h : PE X e (tD r (.int i))) (hg : Gl X "int" := by rfl) (he : starEach [e] X.env = (false, eval e X.env) :: starEach [] X.env := by rfl) : PE X (.Call (.Name "int" pp) [e] [] pos) (tD r (.int i)) := by
  refine de_callT call_int1 ?_ hm (by decide +kernel) (da_cons h da_nil he) hg (by decide) (by decide) he
  intro B H xs Q D rs k
  obtain ⟨x, e, rx⟩ := rs.one_inv
  subst e
  cases rx
  exact .inl ⟨i, rfl, k _ H (Same.refl H) (.int _)⟩
/-! reading a list that is written -/
theorem flat_up {H : Hp} {v : V} (h : Rp B H v d) (hd : flatD d = true) {B' : List Addr} : Rp B' H v d := by
  cases h with
  | non => exact .non
  | bl b => exact .bl b
  | int i => exact .int i
  | str x => exact .str x
  | lst _ _ _ => exact absurd hd Bool.false_ne_true
  | tup _ _ _ => exact absurd hd Bool.false_ne_true
theorem AD.rd {σ : L2.St} {H : Hp} (i : Nat) (h : AD (q :: B) sl (fun H => ML (q :: B) q ds H ∧ m H) r σ H) (hi : (i, q) ∈ sl) (hq : q ∉ B) : Dom B H ∧ Er B H (r.set i (some (.list ds))) σ := by
  obtain ⟨D, E, sls, ⟨vs, e1, rs⟩, hm⟩ := h
  exact ⟨fun b hb => D b (List.mem_cons_of_mem _ hb), E.less.put (.lst e1 hq rs.less) (sls _ hi)⟩
theorem kp_ml {q : Addr} {B : List Addr} {ds : List PyData} (hm : Kp [] m) : Kp [] (fun H => ML (q :: B) q ds H ∧ m H) := Kp.and (Kp.ml (by simp) fun b hb => by cases hb) hm
theorem z_Dm (i : Nat) (hi : (i, q) ∈ sl) (hq : q ∉ B) (hm : Kp [] m) (hd : flatD d = true) (h : PE X e (tD (r.set i (some (.list ds))) d)) : PE X e (tZE (AD (q :: B) sl (fun H => ML (q :: B) q ds H ∧ m H) r) fun σ v H' => AD (q :: B) sl (fun H => ML (q :: B) q ds H ∧ m H) r σ H' ∧ Rp (q :: B) H' v d) :=
  h.wkS fun σ H Q ⟨a, k⟩ => ⟨B, (a.rd i hi hq).1, (a.rd i hi hq).2, fun v H' s rv => k v H' ⟨a.same s (kp_ml hm), flat_up rv hd⟩⟩
theorem z_Tm (i : Nat) (hi : (i, q) ∈ sl) (hq : q ∉ B) (hm : Kp [] m) (h : PT X c (tT (r.set i (some (.list ds))) p)) : PT X c (tZT (AD (q :: B) sl (fun H => ML (q :: B) q ds H ∧ m H) r) fun σ c H' => c = p ∧ AD (q :: B) sl (fun H => ML (q :: B) q ds H ∧ m H) r σ H') :=
  h.wkS fun σ H Q ⟨a, k⟩ => ⟨B, (a.rd i hi hq).1, (a.rd i hi hq).2, fun H' s => k p H' ⟨rfl, a.same s (kp_ml hm)⟩⟩
/-- x[k] = e, e read -/
theorem z_item (i : Nat) {x : Str} {px pi_ ps_ : Pos} {k : Int} {kk : Nat} {j : Nat} (hi : (i, q) ∈ sl) (hq : q ∉ B) (hm : Kp [q] m) (hd : flatD d = true) (he : PE X e (tD (r.set i (some (.list ds))) d)) (hj : ixN ds.length k = some j)
    (hr : PSs X rest (tZ (AD (q :: B) sl (fun H => ML (q :: B) q (ds.set j d) H ∧ m H) r) N R)) (hN : X.N[i]? = some x := by rfl) (hv : Vis X.env.scope x := by first | exact Or.inl rfl | exact Or.inr (Or.inl rfl) | exact Or.inr (Or.inr rfl)) (hdb : (x == ("__debug__" : Str)) = false := by decide) (hcd : (x == ("__classdict__" : Str)) = false := by decide)
    (hs : swapsWithSole [.Subscript (.Name x px) (.Constant (.int k) kk pi_) ps_] e pos.line X.env = pure false := by rfl) (hw : swappedStores [.Subscript (.Name x px) (.Constant (.int k) kk pi_) ps_] e X.env = pure none := by rfl) (h1 : (assignEach [.Subscript (.Name x px) (.Constant (.int k) kk pi_) ps_] X.env).map (·.2) = [assign (.Subscript (.Name x px) (.Constant (.int k) kk pi_) ps_) X.env] := by rfl)
    (ha : ∀ v, assign (.Subscript (.Name x px) (.Constant (.int k) kk pi_) ps_) X.env v = (do
      let ov ← holding [v] (eval (.Name x px) X.env)
      let iv ← holding [v, ov] (eval (.Constant (.int k) kk pi_) X.env)
      standAt ps_
      holding [v, ov, iv] (setItem ov iv v)
      release [v, ov, iv] []) := by intro _; rfl) :
    PSs X (.Assign [.Subscript (.Name x px) (.Constant (.int k) kk pi_) ps_] e pos :: rest) (tZ (AD (q :: B) sl (fun H => ML (q :: B) q ds H ∧ m H) r) N R) := by
  refine (pss_cons (ps_asg he (pg_sub (pe_var hN hv hdb hcd) pe_int set_list ha) hs hw h1) hr).wkS fun Dn σ H ⟨a, kn, k2⟩ => ?_
  refine ⟨B, (a.rd i hi hq).1, (a.rd i hi hq).2, fun v H1 s1 rv => ?_⟩
  have a1 := a.same s1 (kp_ml (hm.less fun b hb => by cases hb))
  obtain ⟨D, E, sls, ⟨vs, e1, rs⟩, hm1⟩ := a1
  refine ⟨.ref q, sls _ hi, q, vs, k, j, rfl, rfl, e1, by rw [rs.length]; exact hj, ?_⟩
  have kk' : Keep [q] H1 (upd H1 q (.lst (vs.set j v))) := fun b o hb e => by
    rw [upd_ne (fun z => hb (by simp [z]))]
    exact e
  have kB : Keep (q :: B) H1 (upd H1 q (.lst (vs.set j v))) := kk'.sub fun b hb => by
    rw [List.mem_singleton] at hb
    rw [hb]; exact List.mem_cons_self
  exact ⟨⟨D.upd, E.keep kB, sls, ⟨vs.set j v, upd_same, rps_set (rs.keep kB) ((flat_up rv hd).keep kB) j⟩, hm _ _ kk' hm1⟩, kn, k2⟩
where rps_set {B : List Addr} {H : Hp} {v : V} {d : PyData} : ∀ {vs : List V} {ds : List PyData}, Rps B H vs ds → Rp B H v d → ∀ j, Rps B H (vs.set j v) (ds.set j d)
  | _, _, .nil, _, _ => .nil
  | _, _, .cons _ s, r, 0 => .cons r s
  | _, _, .cons q s, r, j + 1 => .cons q (rps_set s r j)
end
/-! ### the box -/
def Bx (b : Addr) (n : Nat) (H : Hp) : Prop := ∃ x y c : Int, H b = some (.lst [.int x, .int y, .int c]) ∧ 0 ≤ c ∧ c + n ≤ 1000000000
theorem Kp.bx {F : List Addr} {b : Addr} {n : Nat} (h : b ∉ F) : Kp F (Bx b n) := fun H H' s ⟨x, y, c, e, q⟩ => ⟨x, y, c, s b _ h e, q⟩
theorem Bx.less {b : Addr} {n m : Nat} {H : Hp} (h : m ≤ n) (x : Bx b n H) : Bx b m H := by
  obtain ⟨x, y, c, e, q1, q2⟩ := x
  exact ⟨x, y, c, e, q1, by omega⟩
/-- a promise of a def that draws from the box, k times at most -/
def spB (Pre : List PyData → Prop) (F : List PyData → PyData → Prop) (k : Nat) : Sp := fun vs H Q _ => ∃ (B : List Addr) (b : Addr) (vs' : List V) (ds : List PyData) (n : Nat), vs = V.ref b :: vs' ∧ b ∈ B ∧ Dom B H ∧ Rps B H vs' ds ∧ Pre ds ∧ Bx b (n + k) H ∧
  ∀ v H' d, Keep [b] H H' → Bx b n H' → F ds d → Rp B H' v d → Q v H'
section
variable {P : Program} {w : World} {K : PySem.W.Frag} {mg : Str → Option Value} {base : Heap}
abbrev N50 : List Str := ["_law_box_here", "_law_below", "_law_drawn", "_law_once", "_law_odd", "_law_twice"]
theorem sc50 : FnScope N50 ["_law_box_here", "_law_below"] (defScope (top 50)) := ⟨rfl, rfl, rfl, by decide +kernel, rfl, by decide +kernel, by decide +kernel⟩
def P50 : List PyData → Prop := fun ds => ∃ n : Int, ds = [.int n] ∧ 0 < n ∧ n ≤ 1000000
def F50 : List PyData → PyData → Prop := fun ds d => ∃ n j : Int, ds = [.int n] ∧ d = .int j ∧ 0 ≤ j ∧ j < n
theorem ok_take {f : Addr} {fd : FuncData} (F : FnP K "_law_take" (top 50) f fd) (T : Tx mg) : FnOk P w K mg base CX0 1 f fd ["_law_box_here", "_law_below"] (spB P50 F50 1) := by
  refine F.ok sc50 (fun vs H Q E h => ?_) (fun cdv A outer s H vs Q E hr h => ?_)
  · obtain ⟨B, b, vs', ds, n, rfl, hb, D, rs, ⟨k, rfl, _⟩, _⟩ := h
    show vs'.length + 1 = 2
    rw [rs.length]
    rfl
  · obtain ⟨B, b, vs', ds, n, rfl, hbB, D, rs, ⟨k, rfl, hk0, hk1⟩, ⟨x, y, c, hb, hc0, hc1⟩, kq⟩ := h
    obtain ⟨kv, e, rk⟩ := rs.one_inv
    subst e
    cases rk
    have body : PSs (cxOf CX0 P w K mg base N50 "_law_take" (defScope (top 50)) f cdv A outer s H E).nox (defBody (top 50)) (tZ (AD [b] [(0, b)] (fun H' => ML [b] b [.int x, .int y, .int c] H' ∧ Keep [b] H H') [none, some (.int k), none, none, none, none]) (fun _ _ => False)
      (fun v H' => (∃ j : Int, v = .int j ∧ 0 ≤ j ∧ j < k) ∧ Keep [b] H H' ∧ Bx b n H')) := by
      have kb : Kp [b] (Keep [b] H) := Kp.base fun a ha => .inl ha
      have k0 : Kp [] (Keep [b] H) := kb.less fun a ha => by cases ha
      have hm : (0, b) ∈ [((0 : Nat), b)] := List.mem_singleton.mpr rfl
      have hn : b ∉ ([] : List Addr) := by simp
      refine z_if (M := AD [b] [(0, b)] (fun H' => ML [b] b [.int x, .int y, .int c] H' ∧ Keep [b] H H') [none, some (.int k), none, none, none, none]) (z_Tm 0 hm hn k0 (dt_cmp op_gt od_gt (de_ixL (d := .int x) rfl (de_var 0 rfl) de_int) de_int (nomark _))) ?_ (z_nil fun σ H h => h.2) ?_
      · refine z_pre ?_ fun σ H h => h.2
        refine z_set 2 (z_Dm 0 hm hn k0 rfl (de_mod hk0 (de_intI T.int (de_ixL (d := .int x) rfl (de_var 0 rfl) de_int)) (de_var 1 rfl))) (z_pre ?_ fun σ H ⟨σ0, v, ⟨a, rv⟩, e⟩ => by subst e; exact a.set rv rfl) sc50.nd
        refine z_item 0 (j := 0) hm hn kb rfl (de_fdiv ⟨hk0, by omega⟩ (de_ixL (d := .int x) rfl (de_var 0 rfl) de_int) (de_var 1 rfl)) rfl ?_
        refine z_ret (z_D (de_var 2 rfl) (kp_ml k0)) fun σ v H' ⟨a, rv⟩ => ?_
        cases rv
        obtain ⟨_, _, _, ⟨us, e1, ru⟩, hk⟩ := a
        have := Rps.ints (xs := [x / k, y, c]) ru
        subst this
        exact ⟨⟨_, rfl, Int.emod_nonneg _ (by omega), Int.emod_lt_of_pos _ hk0⟩, hk, _, _, _, e1, hc0, by omega⟩
      · refine z_item 0 (j := 2) hm hn kb rfl (de_add (de_ixL (d := .int c) rfl (de_var 0 rfl) de_int) de_int) rfl ?_
        refine z_set 3 (z_Dm 0 hm hn k0 rfl (de_mod (by decide) (de_intI T.int (de_mul (Or.inr ⟨by omega, by omega⟩) (de_add (de_ixL (d := .int y) rfl (de_var 0 rfl) de_int) (de_mul (Or.inl ⟨by decide, by decide⟩) de_int (de_ixL (d := .int (c + 1)) rfl (de_var 0 rfl) de_int))) (de_add de_int (de_ixL (d := .int (c + 1)) rfl (de_var 0 rfl) de_int)))) de_int)) (z_pre ?_ fun σ H ⟨σ0, v, ⟨a, rv⟩, e⟩ => by subst e; exact a.set rv rfl) sc50.nd
        generalize ((y + 48271 * (c + 1)) * (39373 + (c + 1))) % 2147483647 = once
        refine z_setD 4 (kp_ml k0) (de_add (de_mod (by decide) (de_intI T.int (de_var 3 rfl)) de_int) de_int) ?_ sc50.nd
        have ho : 7 ≤ once % 40009 + 7 ∧ once % 40009 + 7 < 50000 := by
          have h1 := Int.emod_nonneg once (b := 40009) (by decide)
          have h2 := Int.emod_lt_of_pos once (b := 40009) (by decide)
          omega
        generalize once % 40009 + 7 = odd at ho ⊢
        refine z_set 5 (z_Dm 0 hm hn k0 rfl (de_mod (by decide) (de_intI T.int (de_mul (Or.inr ⟨by omega, by omega⟩) (de_add (de_add (de_var 3 rfl) (de_ixL (d := .int (c + 1)) rfl (de_var 0 rfl) de_int)) (de_fdiv ⟨by decide, by decide⟩ (de_ixL (d := .int y) rfl (de_var 0 rfl) de_int) de_int)) (de_var 4 rfl))) de_int)) (z_pre ?_ fun σ H ⟨σ0, v, ⟨a, rv⟩, e⟩ => by subst e; exact a.set rv rfl) sc50.nd
        generalize ((once + (c + 1) + y / 1000003) * odd) % 2147483629 = twice
        refine z_ret (z_D (de_mod hk0 (de_intI T.int (de_fdiv ⟨by decide, by decide⟩ (de_mod (by decide) (de_intI T.int (de_add (de_mul (Or.inr ⟨by decide, by decide⟩) (de_var 5 rfl) de_int) (de_var 3 rfl))) de_int) de_int)) (de_var 1 rfl)) (kp_ml k0)) fun σ v H' ⟨a, rv⟩ => ?_
        cases rv
        obtain ⟨_, _, _, ⟨us, e1, ru⟩, hk⟩ := a
        have := Rps.ints (xs := [x, y, c + 1]) ru
        subst this
        exact ⟨⟨_, rfl, Int.emod_nonneg _ (by omega), Int.emod_lt_of_pos _ hk0⟩, hk, _, _, _, e1, by omega, by omega⟩
    refine ⟨_, PSs.nox body, ⟨?_, ?_, ?_, ?_⟩, fun _ _ z => z.elim, fun v H' ⟨⟨j, ev, h0, h1⟩, hk, hbx⟩ => ?_⟩
    · intro a ha
      rw [List.mem_singleton] at ha
      rw [ha, hb]
      exact fun z => nomatch z
    · exact .no (.so (.int k) (.no (.no (.no (.no .nil)))))
    · intro q hq
      rw [List.mem_singleton] at hq
      rw [hq]
      rfl
    · exact ⟨⟨_, hb, .cons (.int _) (.cons (.int _) (.cons (.int _) .nil))⟩, fun a o _ e => e⟩
    · subst ev
      exact kq _ H' (.int j) hk hbx ⟨k, j, rfl, rfl, h0, h1⟩ (.int j)
end
end Sv
/-! part Z7 -/
set_option Elab.async false
set_option linter.all false
set_option maxRecDepth 100000
set_option maxHeartbeats 4000000
namespace Sv
open PySem PySem.Spec PyProof.Rows L2
/-! ### what draws -/
abbrev BF (b : Addr) (n : Nat) (fr : Hp → Prop) : Hp → Prop := fun H => Bx b n H ∧ fr H
/-- e draws k times at most and gives what P says -/
def PZ (X : Cx) (B : List Addr) (sl : List (Nat × Addr)) (b : Addr) (fr : Hp → Prop) (r : Rho) (e : Expr) (k : Nat) (P : PyData → Prop) : Prop :=
  ∀ n, PE X e fun σ H Q => AD B sl (BF b (n + k) fr) r σ H ∧ ∀ v H' d, Keep [b] H H' → P d → AD B sl (BF b n fr) r σ H' → Rp B H' v d → Q v H'
def PZA (X : Cx) (B : List Addr) (sl : List (Nat × Addr)) (b : Addr) (fr : Hp → Prop) (r : Rho) (es : List Expr) (k : Nat) (P : List PyData → Prop) : Prop :=
  ∀ n, PA X es fun σ H Q => AD B sl (BF b (n + k) fr) r σ H ∧ ∀ vs H' ds, Keep [b] H H' → P ds → AD B sl (BF b n fr) r σ H' → Rps B H' vs ds → Q vs H'
def PZT (X : Cx) (B : List Addr) (sl : List (Nat × Addr)) (b : Addr) (fr : Hp → Prop) (r : Rho) (e : Expr) (k : Nat) (P : Bool → Prop) : Prop :=
  ∀ n, PT X e fun σ H Q => AD B sl (BF b (n + k) fr) r σ H ∧ ∀ c H', Keep [b] H H' → P c → AD B sl (BF b n fr) r σ H' → Q c H'
theorem bf_kp {b : Addr} {n : Nat} {fr : Hp → Prop} (h : Kp [] fr) : Kp [] (BF b n fr) := Kp.and (Kp.bx (by simp)) h
section
variable {X : Cx} {r : Rho} {d d1 d2 : PyData} {e c a o : Expr} {es : List Expr} {ds : List PyData} {pos : Pos} {p : Bool} {B : List Addr} {sl : List (Nat × Addr)} {b : Addr} {fr m : Hp → Prop} {A N M : As} {R : V → Hp → Prop} {rest : List Stmt} {k k1 k2 : Nat} {P P1 P2 : PyData → Prop} {Q Q2 : List PyData → Prop}
theorem AD.fuel {σ : L2.St} {H : Hp} {n m : Nat} (h : AD B sl (BF b n fr) r σ H) (l : m ≤ n) : AD B sl (BF b m fr) r σ H := ⟨h.1, h.2.1, h.2.2.1, h.2.2.2.1.less l, h.2.2.2.2⟩
theorem keepB {H H' : Hp} (hb : b ∈ B) (k : Keep [b] H H') : Keep B H H' := k.sub fun c hc => by
  rw [List.mem_singleton] at hc
  rw [hc]; exact hb
theorem pz_D (h : PE X e (tD r d)) (hf : Kp [] fr) : PZ X B sl b fr r e 0 (fun x => x = d) := fun n => h.wkS fun σ H Q ⟨a, k⟩ => ⟨B, a.1, a.2.1, fun v H' s rv => k v H' d (Keep.of s) rfl (a.same s (bf_kp hf)) rv⟩
theorem pz_imp (h : PZ X B sl b fr r e k1 P1) (l : k1 ≤ k2) (i : ∀ d, P1 d → P2 d) : PZ X B sl b fr r e k2 P2 := fun n => (h (n + (k2 - k1))).wkS fun σ H Q ⟨a, k⟩ => ⟨a.fuel (by omega), fun v H' d kk p1 a' rv => k v H' d kk (i d p1) (a'.fuel (by omega)) rv⟩
theorem pza_imp (h : PZA X B sl b fr r es k1 Q) (l : k1 ≤ k2) (i : ∀ d, Q d → Q2 d) : PZA X B sl b fr r es k2 Q2 := fun n => (h (n + (k2 - k1))).wkS fun σ H QQ ⟨a, k⟩ => ⟨a.fuel (by omega), fun v H' d kk p1 a' rv => k v H' d kk (i d p1) (a'.fuel (by omega)) rv⟩
theorem pza_D (h : PA X es (tA r ds)) (hf : Kp [] fr) : PZA X B sl b fr r es 0 (fun x => x = ds) := fun n => h.wkS fun σ H Q ⟨a, k⟩ => ⟨B, a.1, a.2.1, fun v H' s rv => k v H' ds (Keep.of s) rfl (a.same s (bf_kp hf)) rv⟩
theorem pzt_D (h : PT X e (tT r p)) (hf : Kp [] fr) : PZT X B sl b fr r e 0 (fun x => x = p) := fun n => h.wkS fun σ H Q ⟨a, k⟩ => ⟨B, a.1, a.2.1, fun H' s => k p H' (Keep.of s) rfl (a.same s (bf_kp hf))⟩
theorem pza_cons (hb : b ∈ B) (he : PZ X B sl b fr r e k1 P1) (hr : PZA X B sl b fr r es k2 Q) (hs : starEach (e :: es) X.env = (false, eval e X.env) :: starEach es X.env := by rfl) : PZA X B sl b fr r (e :: es) (k1 + k2) (fun ds => ∃ d ds', ds = d :: ds' ∧ P1 d ∧ Q ds') := fun n =>
  (pa_cons (he (n + k2)) (hr n) hs).wkS fun σ H QQ ⟨a, kk⟩ => ⟨by rw [show n + k2 + k1 = n + (k1 + k2) by omega]; exact a, fun v H1 d k1' p1 a1 rv => ⟨a1, fun vs H2 ds' k2' p2 a2 rs => kk (v :: vs) H2 (d :: ds') (k1'.trans k2') ⟨d, ds', rfl, p1, p2⟩ a2 (.cons (rv.keep (keepB hb k2')) rs)⟩⟩
/-- a call of a def that draws -/
theorem pz_call {j : Nat} {x y : Str} {ps : List Str} {Pre : List PyData → Prop} {F : List PyData → PyData → Prop} {ib : Nat} {pp pb : Pos} (G : Has X.prog X.w X.K X.mg X.base CX0 j x ps (spB Pre F k1)) (hr : Room j X.A) (hb : b ∈ B) (hi : (ib, b) ∈ sl) (hf : Kp [b] fr) (ha : PZA X B sl b fr r es k2 Q) (hq : ∀ ds, Q ds → Pre ds) (hg : Gl X x := by rfl) (hN : X.N[ib]? = some y := by rfl) (hv : Vis X.env.scope y := by first | exact Or.inl rfl | exact Or.inr (Or.inl rfl) | exact Or.inr (Or.inr rfl)) (hdb : (x == ("__debug__" : Str)) = false := by decide) (hdy : (y == ("__debug__" : Str)) = false := by decide) (hcy : (y == ("__classdict__" : Str)) = false := by decide)
    (he : starEach (.Name y pb :: es) X.env = (false, eval (.Name y pb) X.env) :: starEach es X.env := by rfl) (hpl : (backTo pos (starEach es X.env)).any (·.1) = false := by rfl) : PZ X B sl b fr r (.Call (.Name x pp) (.Name y pb :: es) [] pos) (k1 + k2) (fun d => ∃ ds, Q ds ∧ F ds d) := by
  obtain ⟨f, fd, hm, hk, hbd, Fk⟩ := G.ex
  intro n
  refine (pe_call Fk hr hg hm hk hbd .nil pass0 (pa_cons (pe_var hN hv hdy hcy) (ha (n + k1)) he) hdb he hpl (E := E0)).wkS fun σ H QQ ⟨a, kk⟩ => ?_
  refine ⟨.ref b, a.2.2.1 _ hi, by rw [show n + k1 + k2 = n + (k1 + k2) by omega]; exact a, fun vs H1 ds k1' p1 a1 rs => ?_⟩
  refine ⟨B, b, vs, ds, n, by rw [List.append_nil], hb, a1.1, rs, hq ds p1, a1.2.2.2.1, fun v H2 d k2' hbx hF rv => ?_⟩
  have kB := keepB hb k2'
  have D2 : Dom B H2 := fun c hc e => by
    cases q : H1 c with
    | none => exact a1.1 c hc q
    | some o =>
      by_cases z : c = b
      · subst z
        obtain ⟨_, _, _, e2, _⟩ := hbx
        rw [e2] at e
        cases e
      · rw [k2' c o (by simp [z]) q] at e
        cases e
  exact kk v H2 d (k1'.trans k2') ⟨ds, p1, hF⟩ ⟨D2, a1.2.1.keep kB, a1.2.2.1, hbx, hf _ _ k2' a1.2.2.2.2⟩ rv
theorem pz_lst (h : PZA X B sl b fr r es k Q) (hz : ∀ ds, Q ds → ds.length ≤ sizeLine) (hf : Kp [] fr) : PZ X B sl b fr r (.List es pos) k (fun d => ∃ ds, Q ds ∧ d = .list ds) := fun n => (pe_lst (h n)).wkS fun σ H QQ ⟨a, kk⟩ =>
  ⟨a, fun vs H1 ds k1 p1 a1 rs => ⟨by rw [rs.length]; exact hz ds p1, fun q hq => kk _ _ _ (k1.trans (Keep.of (same_new hq))) ⟨ds, p1, rfl⟩ (a1.same (same_new hq) (bf_kp hf)) (Rp.lst_new hq a1.1 rs)⟩⟩
theorem pz_tup {kt : Nat} (h : PZA X B sl b fr r es k Q) (hz : ∀ ds, Q ds → ds.length ≤ sizeLine) (hf : Kp [] fr) : PZ X B sl b fr r (.Tuple es kt pos) k (fun d => ∃ ds, Q ds ∧ d = .tuple ds) := fun n => (pe_tup (h n)).wkS fun σ H QQ ⟨a, kk⟩ =>
  ⟨a, fun vs H1 ds k1 p1 a1 rs => ⟨by rw [rs.length]; exact hz ds p1, fun q hq => kk _ _ _ (k1.trans (Keep.of (same_new hq))) ⟨ds, p1, rfl⟩ (a1.same (same_new hq) (bf_kp hf)) (Rp.tup_new hq a1.1 rs)⟩⟩
/-- two parts by values -/
theorem pz_op {r2 : R2} (hb : b ∈ B) (h : ∀ d1 d2, P1 d1 → P2 d2 → ∃ d, P d ∧ OpD r2 d1 d2 d) (ha : PZ X B sl b fr r a k1 P1) (hc : PZ X B sl b fr r c k2 P2) (hf : Kp [] fr) (n : Nat) (σ : L2.St) (H : Hp) (QQ : VK) (z : AD B sl (BF b (n + (k1 + k2)) fr) r σ H ∧ ∀ v H' d, Keep [b] H H' → P d → AD B sl (BF b n fr) r σ H' → Rp B H' v d → QQ v H') :
    tOp r2 (fun σ H Q => AD B sl (BF b (n + k2 + k1) fr) r σ H ∧ ∀ v H' d, Keep [b] H H' → P1 d → AD B sl (BF b (n + k2) fr) r σ H' → Rp B H' v d → Q v H') (fun σ H Q => AD B sl (BF b (n + k2) fr) r σ H ∧ ∀ v H' d, Keep [b] H H' → P2 d → AD B sl (BF b n fr) r σ H' → Rp B H' v d → Q v H') σ H QQ := by
  obtain ⟨A0, kk⟩ := z
  refine ⟨by rw [show n + k2 + k1 = n + (k1 + k2) by omega]; exact A0, fun v H1 d1 k1' p1 a1 rv => ⟨a1, fun w H2 d2 k2' p2 a2 rw_ => ?_⟩⟩
  obtain ⟨d, pd, op⟩ := h d1 d2 p1 p2
  exact op B H2 v w QQ a2.1 (rv.keep (keepB hb k2')) rw_ fun u H3 s3 ru => kk u H3 d ((k1'.trans k2').trans (Keep.of s3)) pd (a2.same s3 (bf_kp hf)) ru
theorem pz_bin (hb : b ∈ B) {op : Operator} {r2 : R2} (ho : OpR X (binaryOp op) r2) (h : ∀ d1 d2, P1 d1 → P2 d2 → ∃ d, P d ∧ OpD r2 d1 d2 d) (ha : PZ X B sl b fr r a k1 P1) (hc : PZ X B sl b fr r c k2 P2) (hf : Kp [] fr) : PZ X B sl b fr r (.BinOp a op c pos) (k1 + k2) P := fun n => (pe_op ho (ha (n + k2)) (hc n)).wkS (pz_op hb h ha hc hf n)
theorem pz_cmp (hb : b ∈ B) {op : CmpOp} {r2 : R2} (ho : OpR X (compareOp op) r2) (h : ∀ d1 d2, P1 d1 → P2 d2 → ∃ d, P d ∧ OpD r2 d1 d2 d) (ha : PZ X B sl b fr r a k1 P1) (hc : PZ X B sl b fr r c k2 P2) (hf : Kp [] fr) (hm : behindInMarks op c = false) : PZ X B sl b fr r (.Compare a [op] [c] pos) (k1 + k2) P := fun n => (pe_cmpR ho (ha (n + k2)) (hc n) hm).wkS (pz_op hb h ha hc hf n)
theorem pzt_cmp (hb : b ∈ B) {op : CmpOp} {r2 : R2} {PT_ : Bool → Prop} (ho : OpR X (compareOp op) r2) (h : ∀ d1 d2, P1 d1 → P2 d2 → ∃ t, PT_ t ∧ OpD r2 d1 d2 (.bool t)) (ha : PZ X B sl b fr r a k1 P1) (hc : PZ X B sl b fr r c k2 P2) (hf : Kp [] fr) (hm : behindInMarks op c = false) : PZT X B sl b fr r (.Compare a [op] [c] pos) (k1 + k2) PT_ := fun n => (pt_cmpR ho (ha (n + k2)) (hc n) hm).wkS fun σ H QQ z =>
  pz_op hb (P := fun d => ∃ t, PT_ t ∧ d = .bool t) (fun d1 d2 p1 p2 => by
    obtain ⟨t, h1, h2⟩ := h d1 d2 p1 p2
    exact ⟨.bool t, ⟨t, h1, rfl⟩, h2⟩) ha hc hf n σ H _ ⟨z.1, fun v H' d k' pd a' rv => by
      obtain ⟨t, h1, rfl⟩ := pd
      cases rv
      exact ⟨t, rfl, z.2 t H' k' h1 a'⟩⟩
/-- an item -/
theorem pz_ix (hb : b ∈ B) {r2 : R2} (ho : IxR X r2) (h : ∀ d1 d2, P1 d1 → P2 d2 → ∃ d, P d ∧ OpD r2 d1 d2 d) (ha : PZ X B sl b fr r a k1 P1) (hc : PZ X B sl b fr r c k2 P2) (hf : Kp [] fr) (hs : PlainIx c := by exact fun _ _ => rfl) : PZ X B sl b fr r (.Subscript a c pos) (k1 + k2) P := fun n => (pe_ix ho (ha (n + k2)) (hc n) hs).wkS (pz_op hb h ha hc hf n)
/-! statements -/
theorem z_setP (i : Nat) {x : Str} {pos' : Pos} {n : Nat} (he : PZ X B sl b fr r e k P) (hr : ∀ d, P d → PSs X rest (tZ (AD B sl (BF b n fr) (r.set i (some d))) N R)) (hN : X.N.Nodup) (hsl : sl.all (fun q => !decide (q.1 = i)) = true := by rfl) (hi : X.N[i]? = some x := by rfl) (hx : Loc X.env.scope x := by first | exact Or.inl rfl | exact Or.inr rfl) (hs : swapsWith e (some (.Name x pos')) pos.line X.env = pure false := by rfl)
    (hf : X.fn x = true ∨ X.env.scope.names.lookup x = some .local := by first | exact .inl rfl | exact .inr rfl) : PSs X (.Assign [.Name x pos'] e pos :: rest) (tZ (AD B sl (BF b (n + k) fr) r) N R) := by
  have h2 : PSs X rest (tZ (fun σ H => ∃ d, P d ∧ AD B sl (BF b n fr) (r.set i (some d)) σ H) N R) := z_ex hr
  exact (pss_cons (ps_set hN hi hx (he n) hs hf) h2).wkS fun Dn σ H ⟨a, kk, k2⟩ => ⟨a, fun v H1 d _ pd a1 rv => ⟨⟨d, pd, a1.set rv hsl⟩, kk, k2⟩⟩
theorem z_retP {n : Nat} (he : PZ X B sl b fr r e k P) (h : ∀ v H' d, P d → Dom B H' → Bx b n H' → fr H' → Rp B H' v d → R v H') : PSs X (.Return (some e) pos :: rest) (tZ (AD B sl (BF b (n + k) fr) r) N R) :=
  z_ret (R1 := fun σ v H' => ∃ d, P d ∧ AD B sl (BF b n fr) r σ H' ∧ Rp B H' v d) ((he n).wkS fun σ H QQ ⟨a, kk⟩ => ⟨a, fun v H' d _ pd a' rv => kk v H' ⟨d, pd, a', rv⟩⟩) fun σ v H' ⟨d, pd, a, rv⟩ => h v H' d pd a.1 a.2.2.2.1 a.2.2.2.2 rv
end
section
variable {P : Program} {w : World} {K : PySem.W.Frag} {mg : Str → Option Value} {base : Heap}
/-- a def that draws, its body by triples; the box stands in slot 0 -/
theorem fn_okB {x : Str} {st : Stmt} {f : Addr} {fd : FuncData} {Nm ps : List Str} {k j : Nat} {Pre : List PyData → Prop} {F : List PyData → PyData → Prop} (hF : FnP K x st f fd) (S : FnScope Nm ps (defScope st)) (len : ∀ ds, Pre ds → ds.length + 1 = ps.length)
    (body : ∀ (cdv : Value) (A : Around) (outer : List Env) (s : Shared) (H : Hp) (E : XK), Room k (A.deeper (envOfC x (defScope st) s.heap.objs.size f cdv)) → ∀ ds, Pre ds → ∀ B b n H0, b ∈ B →
      PSs (cxOf CX0 P w K mg base Nm x (defScope st) f cdv A outer s H E).nox (defBody st) (tZ (AD B [(0, b)] (BF b (n + j) (Keep [b] H0)) (none :: (ds.map some ++ List.replicate (Nm.length - (ds.length + 1)) none))) (fun _ _ => False) (fun v H' => ∃ d, F ds d ∧ Keep [b] H0 H' ∧ Bx b n H' ∧ Rp B H' v d))) : FnOk P w K mg base CX0 (k + 1) f fd ps (spB Pre F j) := by
  refine hF.ok S (fun vs H Q E h => ?_) (fun cdv A outer s H vs Q E hr h => ?_)
  · obtain ⟨B, b, vs', ds, n, rfl, hb, D, rs, hp, _⟩ := h
    rw [List.length_cons, rs.length]
    exact len ds hp
  · obtain ⟨B, b, vs', ds, n, rfl, hb, D, rs, hp, hbx, kk⟩ := h
    refine ⟨_, PSs.nox (body cdv A outer s H E hr ds hp B b n H hb), ⟨D, ?_, ?_, hbx, fun a o _ e => e⟩, fun σ' H' e => e.elim, fun v H' ⟨d, hFd, k1, k2, rv⟩ => kk v H' d k1 k2 hFd rv⟩
    · have e := rs.length
      unfold L2.start
      rw [List.map_cons, List.cons_append, List.length_cons, e]
      exact .no (er_start _ rs)
    · intro q hq
      rw [List.mem_singleton] at hq
      rw [hq]
      rfl
/-! ### _law_of, _law_rule, _law_answer -/
abbrev N52 : List Str := ["_law_box_here", "_law_some"]
theorem sc52 : FnScope N52 ["_law_box_here", "_law_some"] (defScope (top 52)) := ⟨rfl, rfl, rfl, by decide +kernel, rfl, by decide +kernel, by decide +kernel⟩
def P52 : List PyData → Prop := fun ds => ∃ xs, ds = [.list xs] ∧ 0 < xs.length ∧ xs.length ≤ 1000
def F52 : List PyData → PyData → Prop := fun ds d => ∃ xs, ds = [.list xs] ∧ d ∈ xs
theorem atI_nat {α : Type} {xs : List α} {j : Int} (h0 : 0 ≤ j) (h1 : j < ((xs.length : Nat) : Int)) : ∃ d, L2.atI xs j = some d ∧ d ∈ xs := by
  have hj : j.toNat < xs.length := by omega
  refine ⟨xs[j.toNat], ?_, List.getElem_mem hj⟩
  unfold L2.atI ixN
  rw [if_pos h0, if_pos h1]
  exact List.getElem?_eq_getElem hj
theorem ok_of {f : Addr} {fd : FuncData} (F : FnP K "_law_of" (top 52) f fd) (T : Tx mg) (G50 : Has P w K mg base CX0 1 "_law_take" ["_law_box_here", "_law_below"] (spB P50 F50 1)) : FnOk P w K mg base CX0 2 f fd ["_law_box_here", "_law_some"] (spB P52 F52 1) := by
  refine fn_okB F sc52 (fun ds ⟨xs, h, _⟩ => by rw [h]; rfl) fun cdv A outer s H E hr ds hp B b n H0 hb => ?_
  obtain ⟨xs, rfl, h0, h1⟩ := hp
  show PSs _ _ (tZ (AD B [(0, b)] _ [none, some (.list xs)]) _ _)
  have kb : Kp [b] (Keep [b] H0) := Kp.base fun a ha => .inl ha
  have k0 : Kp [] (Keep [b] H0) := kb.less fun a ha => by cases ha
  refine z_retP (k := 1) (n := n) (pz_imp (P2 := fun d => d ∈ xs) (pz_ix hb (P := fun d => d ∈ xs) ix_list (fun d1 d2 p1 p2 => ?_) (pz_D (de_var 1 rfl) k0) (pz_call G50 hr hb (List.mem_singleton.mpr rfl) kb (pza_D (da_cons (de_lenL T.len (de_var 1 rfl)) da_nil) k0) (fun ds hd => ?_)) k0) (by decide) (fun d h => h)) fun v H' d pd _ hbx hk rv => ⟨d, ⟨xs, rfl, pd⟩, hk, hbx, rv⟩
  · subst p1
    obtain ⟨ds, rfl, m, j, e1, rfl, h2, h3⟩ := p2
    cases e1
    obtain ⟨d, e2, e3⟩ := atI_nat (xs := xs) h2 h3
    exact ⟨d, e3, od_ixL e2⟩
  · exact ⟨_, hd, by omega, by omega⟩
abbrev N61 : List Str := ["_law_box_here"]
theorem sc61 : FnScope N61 ["_law_box_here"] (defScope (top 61)) := ⟨rfl, rfl, rfl, by decide +kernel, rfl, by decide +kernel, by decide +kernel⟩
def F61 : List PyData → PyData → Prop := fun ds d => d ∈ ([.str "check", .str "check", .str "merge", .str "merge", .str "fields", .str "whole"] : List PyData)
theorem ok_rule {f : Addr} {fd : FuncData} (F : FnP K "_law_rule" (top 61) f fd) (T : Tx mg) (G52 : Has P w K mg base CX0 2 "_law_of" ["_law_box_here", "_law_some"] (spB P52 F52 1)) : FnOk P w K mg base CX0 3 f fd ["_law_box_here"] (spB (fun ds => ds = []) F61 1) := by
  refine fn_okB F sc61 (fun ds h => by rw [h]; rfl) fun cdv A outer s H E hr ds hp B b n H0 hb => ?_
  subst hp
  show PSs _ _ (tZ (AD B [(0, b)] _ [none]) _ _)
  have kb : Kp [b] (Keep [b] H0) := Kp.base fun a ha => .inl ha
  have k0 : Kp [] (Keep [b] H0) := kb.less fun a ha => by cases ha
  refine z_retP (k := 1) (n := n) (pz_imp (P2 := F61 []) (pz_call G52 hr hb (List.mem_singleton.mpr rfl) kb (pza_D (da_cons (de_lst (da_strs rfl) (sz_ok rfl)) da_nil) k0) (fun ds hd => ⟨_, hd, by decide, by decide⟩)) (by decide) (fun d h => ?_)) fun v H' d pd _ hbx hk rv => ⟨d, pd, hk, hbx, rv⟩
  obtain ⟨ds, rfl, xs, e1, h1⟩ := h
  cases e1
  exact h1
end
end Sv
/-! part Z8 -/
set_option Elab.async false
set_option linter.all false
set_option maxRecDepth 100000
set_option maxHeartbeats 4000000
namespace Sv
open PySem PySem.Spec PyProof.Rows L2
/-- what a comprehension whose tests and elements draw may give -/
inductive Outs (P1 : PyData → Bool → Prop) (P2 : PyData → PyData → Prop) : List PyData → List PyData → Prop
  | nil : Outs P1 P2 [] []
  | yes {d e : PyData} {ds es : List PyData} : Outs P1 P2 ds es → P1 d true → P2 d e → Outs P1 P2 (ds ++ [d]) (es ++ [e])
  | no {d : PyData} {ds es : List PyData} : Outs P1 P2 ds es → P1 d false → Outs P1 P2 (ds ++ [d]) es
theorem Outs.len {P1 : PyData → Bool → Prop} {P2 : PyData → PyData → Prop} {ds es : List PyData} (h : Outs P1 P2 ds es) : es.length ≤ ds.length := by
  induction h with
  | nil => exact Nat.le_refl _
  | yes _ _ _ ih => simp only [List.length_append, List.length_cons, List.length_nil]; omega
  | no _ _ ih => simp only [List.length_append, List.length_cons, List.length_nil]; omega
theorem Outs.mem {P1 : PyData → Bool → Prop} {P2 : PyData → PyData → Prop} {ds es : List PyData} (h : Outs P1 P2 ds es) : ∀ e ∈ es, ∃ d ∈ ds, P1 d true ∧ P2 d e := by
  induction h with
  | nil => intro e he; cases he
  | yes _ p1 p2 ih =>
    intro e he
    rcases List.mem_append.mp he with q | q
    · obtain ⟨d, hd, r⟩ := ih e q
      exact ⟨d, List.mem_append_left _ hd, r⟩
    · rw [List.mem_singleton] at q
      subst q
      exact ⟨_, List.mem_append_right _ (List.mem_singleton.mpr rfl), p1, p2⟩
  | no _ _ ih =>
    intro e he
    obtain ⟨d, hd, r⟩ := ih e he
    exact ⟨d, List.mem_append_left _ hd, r⟩
section
variable {X : Cx} {r : Rho} {ds : List PyData} {B : List Addr} {sl : List (Nat × Addr)} {b : Addr} {fr : Hp → Prop}
def ttZ (B : List Addr) (sl : List (Nat × Addr)) (b : Addr) (u : PyData → Rho) (ds : List PyData) (k1 : Nat) (P1 : PyData → Bool → Prop) : TT := fun σ H Q => ∃ a : PyData × Nat × Addr × (Hp → Prop), (a.1 ∈ ds ∧ a.2.2.1 ≠ b ∧ Kp [b] a.2.2.2) ∧
  (AD (a.2.2.1 :: B) sl (BF b (a.2.1 + k1) a.2.2.2) (u a.1) σ H ∧ ∀ c H', Keep [b] H H' → P1 a.1 c → AD (a.2.2.1 :: B) sl (BF b a.2.1 a.2.2.2) (u a.1) σ H' → Q c H')
def teZ (B : List Addr) (sl : List (Nat × Addr)) (b : Addr) (u : PyData → Rho) (ds : List PyData) (k2 : Nat) (P1 : PyData → Bool → Prop) (P2 : PyData → PyData → Prop) : TE := fun σ H Q => ∃ a : PyData × Nat × Addr × (Hp → Prop), ((a.1 ∈ ds ∧ P1 a.1 true) ∧ a.2.2.1 ≠ b ∧ Kp [b] a.2.2.2) ∧
  (AD (a.2.2.1 :: B) sl (BF b (a.2.1 + k2) a.2.2.2) (u a.1) σ H ∧ ∀ v H' d, Keep [b] H H' → P2 a.1 d → AD (a.2.2.1 :: B) sl (BF b a.2.1 a.2.2.2) (u a.1) σ H' → Rp (a.2.2.1 :: B) H' v d → Q v H')
theorem kp_lst {b q : Addr} {vs : List V} (h : q ≠ b) : Kp [b] (fun H => H q = some (.lst vs)) := fun H H' k e => k q _ (by simp [h]) e
theorem take_next' {α : Type} {l : List α} {i : Nat} (hi : i < l.length) : l.take (i + 1) = l.take i ++ [l[i]] := by
  rw [List.take_succ, List.getElem?_eq_getElem hi]
  rfl
theorem lc_Z {g : TG} {tt : TT} {vs ws : List Nat} {u : PyData → Rho} {k1 k2 : Nat} {P1 : PyData → Bool → Prop} {P2 : PyData → PyData → Prop} {n : Nat} (hb : b ∈ B) (hf : Kp [b] fr) (hz : ds.length < sizeLine) (hg : ∀ d ∈ ds, GD g (wipeD r vs) d (u d) ws) (hw : ∀ j ∈ ws, j ∈ vs) (hsl : sl.all (fun q => !vs.contains q.1) = true) (htt : ∀ σ H Q, ttZ B sl b u ds k1 P1 σ H Q → tt σ H Q) (σ : L2.St) (H : Hp) (Q : VK)
    (z : AD B sl (BF b (n + (k1 + k2) * ds.length) fr) r σ H ∧ ∀ v H' es, Keep [b] H H' → Outs P1 P2 ds es → AD B sl (BF b n fr) r σ H' → Rp B H' v (.list es) → Q v H') :
    tLc (tI r ds) g tt (teZ B sl b u ds k2 P1 P2) vs σ H Q := by
  obtain ⟨⟨D, E, sls, hbx, hfr⟩, k⟩ := z
  refine ⟨B, D, E, fun J H1 s1 gv L hL => ?_⟩
  obtain ⟨G, Y, w, hG, hY⟩ := gv.ex
  have D1 := D.same s1
  have E1 := E.same s1
  have nL : L ∉ B := D1.out hL
  have nb : L ≠ b := fun e => nL (e ▸ hb)
  have hL0 : H L = none := by
    cases q : H L with
    | none => rfl
    | some o => rw [s1 L o q] at hL; cases hL
  have kf : Kp [b] (fun H' => fr H' ∧ Keep [b] H H') := hf.and (Kp.base fun a ha => .inl ha)
  have kf0 : Kp [] (fun H' => fr H' ∧ Keep [b] H H') := kf.less fun a ha => by cases ha
  have bx0 : ∀ m, Kp [] (Bx b m) := fun m => Kp.bx (by simp)
  have slw : ∀ {σ' : L2.St}, L2.wipe σ' vs = L2.wipe σ vs → σ'.length = σ.length → ∀ q ∈ sl, σ'[q.1]? = some (some (.ref q.2)) := fun {σ'} h hl q hq => by
    have nv : q.1 ∉ vs := fun hv => by
      have zz := List.all_eq_true.mp hsl q hq
      rw [Bool.not_eq_true'] at zz
      rw [List.contains_iff_mem.mpr hv] at zz
      cases zz
    have e1 : (L2.wipe σ' vs)[q.1]? = σ'[q.1]? := wipe_out nv
    have e2 : (L2.wipe σ vs)[q.1]? = σ[q.1]? := wipe_out nv
    rw [← e1, h, e2]
    exact sls q hq
  have hf0 : Kp [] fr := hf.less fun a ha => by cases ha
  have kH1 : ∀ {H2 : Hp}, Keep [b] H1 H2 → Keep [b] H H2 := fun k2 => (Keep.of s1).trans k2
  have eL : ∀ {H2 : Hp}, Keep [b] H H2 → Er (L :: B) H2 r σ := fun {H2} kk => (E.new hL0).keep (kk.sub fun a ha => by rw [List.mem_singleton] at ha; rw [ha]; exact List.mem_cons_of_mem _ hb)
  refine lc_it (g := g) (tt := tt) (te := teZ B sl b u ds k2 P1 P2) (vs := vs) (σ := σ) (Qd := fun H => Q (.ref L) H) w
    (fun i H2 => ∃ acc es, H2 L = some (.lst acc) ∧ Keep [b] H1 H2 ∧ Dom B H2 ∧ Rps (L :: B) H2 acc es ∧ Outs P1 P2 (ds.take i) es ∧ Bx b (n + (k1 + k2) * (ds.length - i)) H2 ∧ fr H2) ⟨[], [], upd_same, Keep.of (same_new hL), D1.same (same_new hL), .nil, (by rw [List.take_zero]; exact .nil), bx0 _ _ _ (Keep.of (s1.trans (same_new hL))) hbx, hf0 _ _ (Keep.of (s1.trans (same_new hL))) hfr⟩ (fun i H2 hi h => ?_) ?_ ?_
  · obtain ⟨acc, es, h1, h2, _⟩ := h
    exact hG H2 (keepB hb h2)
  · intro i x H2 H3 hi h y
    obtain ⟨acc, es, h1, h2, h3, h4, h5, h6, h7⟩ := h
    have hd : ds[i]? = some ds[i] := List.getElem?_eq_getElem hi
    have hm : ds[i] ∈ ds := List.getElem_mem hi
    have D2 : Dom (L :: B) H2 := h3.cons h1
    obtain ⟨s3, rx⟩ := hY i _ H2 x H3 (L :: B) hd (keepB hb h2) y D2 (fun b hb => List.mem_cons_of_mem _ hb) (fun b hb => by
      rcases List.mem_cons.mp hb with e | e
      · exact .inr (e ▸ hL)
      · exact .inl e)
    have D3 := D2.same s3
    have k03 : Keep [b] H H3 := (kH1 h2).trans (Keep.of s3)
    refine hg _ hm (L :: B) H3 x _ _ D3 ((eL k03).wipe vs) rx fun σ2 E4 hσ hσl => ?_
    have hwp : L2.wipe σ2 vs = L2.wipe σ vs := wipe_agree (by rw [hσl, wipe_length]) hσ hw
    refine ⟨hwp, ?_⟩
    have sl2 := slw hwp (by rw [hσl, wipe_length])
    have hi1 : (k1 + k2) * (ds.length - i) = (k1 + k2) * (ds.length - (i + 1)) + k2 + k1 := by
      rw [show ds.length - i = (ds.length - (i + 1)) + 1 by omega, Nat.mul_succ]
      omega
    refine htt _ _ _ ⟨(ds[i], n + (k1 + k2) * (ds.length - (i + 1)) + k2, L, fun H' => (fr H' ∧ Keep [b] H H') ∧ H' L = some (.lst acc)), ⟨hm, nb, kf.and (kp_lst nb)⟩, ⟨D3, E4, sl2, ?_, ⟨⟨hf.same s3 h7, k03⟩, s3 _ _ h1⟩⟩, fun c H4 k4 p4 a4 => ?_⟩
    · have q := bx0 _ _ _ (Keep.of s3) h6
      rw [hi1] at q
      exact Bx.less (m := n + (k1 + k2) * (ds.length - (i + 1)) + k2 + k1) (by omega) q
    · obtain ⟨D4, E4', sl4, bx4, ⟨fr4, k04⟩, hl4⟩ := a4
      cases c with
      | true =>
        refine iteT ⟨(ds[i], n + (k1 + k2) * (ds.length - (i + 1)), L, fun H' => (fr H' ∧ Keep [b] H H') ∧ H' L = some (.lst acc)), ⟨⟨hm, p4⟩, nb, kf.and (kp_lst nb)⟩, ⟨D4, E4', sl4, bx4, ⟨fr4, k04⟩, hl4⟩, fun v H5 d k5 p5 a5 rv => ?_⟩
        obtain ⟨D5, E5, sl5, bx5, ⟨fr5, k05⟩, hl5⟩ := a5
        have kk : Keep [L] H5 (upd H5 L (.lst (acc ++ [v]))) := fun a o ha e => by
          rw [upd_ne (fun z => ha (by simp [z]))]
          exact e
        have kLB : Keep (L :: B) H5 (upd H5 L (.lst (acc ++ [v]))) := kk.sub fun a ha => by
          rw [List.mem_singleton] at ha
          rw [ha]; exact List.mem_cons_self
        have k45 : Keep [b] H2 H5 := ((Keep.of s3).trans k4).trans k5
        have k45B : Keep (L :: B) H2 H5 := k45.sub fun a ha => by rw [List.mem_singleton] at ha; rw [ha]; exact List.mem_cons_of_mem _ hb
        refine ⟨acc, hl5, ?_, acc ++ [v], es ++ [d], upd_same, fun a o ha e => ?_, ?_, ?_, ?_, ?_, ?_⟩
        · have l1 := h4.length
          have l2 := h5.len
          rw [List.length_take] at l2
          omega
        · rw [upd_ne (ne_of_none e hL)]
          exact k45 a o ha (h2 a o ha e)
        · exact Dom.upd fun a ha => D5 a (List.mem_cons_of_mem _ ha)
        · exact ((h4.keep k45B).append (.cons rv .nil)).keep kLB
        · rw [take_next' hi]
          exact .yes h5 p4 p5
        · exact (Kp.bx (by simp [Ne.symm nb])) _ _ kk bx5
        · refine hf H _ (fun a o ha e => ?_) hfr
          rw [upd_ne (ne_of_none e hL0)]
          exact k05 a o ha e
      | false =>
        refine iteF ⟨acc, es, hl4, ?_, fun a ha => D4 a (List.mem_cons_of_mem _ ha), h4.keep (((Keep.of s3).trans k4).sub fun a ha => by rw [List.mem_singleton] at ha; rw [ha]; exact List.mem_cons_of_mem _ hb), ?_, Bx.less (n := n + (k1 + k2) * (ds.length - (i + 1)) + k2) (by omega) bx4, fr4⟩
        · intro a o ha e
          exact k4 a o ha (s3 a o (h2 a o ha e))
        · rw [take_next' hi]
          exact .no h5 p4
  · rintro H2 ⟨acc, es, h1, h2, h3, h4, h5, h6, h7⟩
    rw [List.take_length] at h5
    refine k _ H2 es (kH1 h2) h5 ⟨h3, E.keep (keepB hb (kH1 h2)), sls, h6.less (by omega), h7⟩ (.lst h1 nL h4.less)
variable {elt iter t : Expr} {scope : Scope} {pos : Pos} {N0 : List Str} {sc0 : Scope} {k1 k2 : Nat} {P1 : PyData → Bool → Prop} {P2 : PyData → PyData → Prop}
theorem tt_z {Y : Cx} {u : PyData → Rho} (h : ∀ d ∈ ds, ∀ q f, q ≠ b → Kp [b] f → PZT Y (q :: B) sl b f (u d) t k1 (P1 d)) : PT Y t (ttZ B sl b u ds k1 P1) := ⟨fun pins s σ H Q I ⟨a, ⟨h1, h2, h3⟩, q⟩ => (h a.1 h1 a.2.2.1 a.2.2.2 h2 h3 a.2.1).run pins s σ H Q I q⟩
theorem te_z {Y : Cx} {u : PyData → Rho} (h : ∀ d ∈ ds, P1 d true → ∀ q f, q ≠ b → Kp [b] f → PZ Y (q :: B) sl b f (u d) elt k2 (P2 d)) : PE Y elt (teZ B sl b u ds k2 P1 P2) := ⟨fun pins s σ H Q I ⟨a, ⟨⟨h1, h1'⟩, h2, h3⟩, q⟩ => (h a.1 h1 h1' a.2.2.1 a.2.2.2 h2 h3 a.2.1).run pins s σ H Q I q⟩
/-- [elt for x in iter if t], the test draws -/
theorem pz_lcIf (i : Nat) {x : Str} {px : Pos} (hb : b ∈ B) (hf : Kp [b] fr) (hc : X.calm = true) (hN : X.N.Nodup) (ok : blkC N0 sc0 scope [(x, i)] = true) (hz : ds.length < sizeLine) (hi : PI X (.Name x px) iter (tI r ds)) (hsl : sl.all (fun q => ![i].contains q.1) = true)
    (ht : ∀ d ∈ ds, ∀ q f, q ≠ b → Kp [b] f → ∀ (s : Shared) (H : Hp) (C : Addr) (cl : List (Str × Addr)) (fp : List Addr), PZT (X.blk s H scope (compEnvC scope cl C X.env) fp) (q :: B) sl b f ((wipeD r [i]).set i (some d)) t k1 (P1 d))
    (he : ∀ d ∈ ds, P1 d true → ∀ q f, q ≠ b → Kp [b] f → ∀ (s : Shared) (H : Hp) (C : Addr) (cl : List (Str × Addr)) (fp : List Addr), PZ (X.blk s H scope (compEnvC scope cl C X.env) fp) (q :: B) sl b f ((wipeD r [i]).set i (some d)) elt k2 (P2 d))
    (e1 : X.N = N0 := by rfl) (e2 : X.env.scope = sc0 := by rfl) (hx : scope.names.lookup x = some .local := by rfl) (hxi : N0[i]? = some x := by rfl) (hs : ∀ x, foldedSetIterable iter X.env x = pure x := by intro _; rfl) :
    PZ X B sl b fr r (.ListComp elt [⟨.Name x px, iter, [t], 0⟩] scope pos) ((k1 + k2) * ds.length) (fun d => ∃ es, Outs P1 P2 ds es ∧ d = .list es) := fun n =>
  (pe_lc (own := [(x, i)]) (g := gName i) hc hN hi (by rw [e1, e2]; exact blkOk_by ok) (fun _ _ _ _ _ => pg_name (i := i) hN (by show X.N[i]? = some x; rw [e1]; exact hxi) (Or.inl (loc_blk hx)) (.inr (loc_blk hx))) (fun s H C cl fp => pts_one (tt_z fun d hd q f hq hff => ht d hd q f hq hff s H C cl fp)) (fun s H C cl fp => te_z fun d hd hp q f hq hff => he d hd hp q f hq hff s H C cl fp) hs).wkS fun σ H Q ⟨a, kk⟩ =>
    lc_Z (u := fun d => (wipeD r [i]).set i (some d)) (ws := [i]) hb hf hz (fun d _ => gd_name) (fun j hj => hj) hsl (fun _ _ _ z => z) σ H Q ⟨a, fun v H' es k1 ho a' rv => kk v H' _ k1 ⟨es, ho, rfl⟩ a' rv⟩
theorem tt_yes' {u : PyData → Rho} : ∀ σ H Q, ttZ B sl b u ds 0 (fun _ c => c = true) σ H Q → tYes σ H Q := fun σ H Q ⟨a, _, q, k⟩ => k true H (fun _ _ _ e => e) rfl q
/-- [elt for x in iter], the element draws -/
theorem pz_lc (i : Nat) {x : Str} {px : Pos} (hb : b ∈ B) (hf : Kp [b] fr) (hc : X.calm = true) (hN : X.N.Nodup) (ok : blkC N0 sc0 scope [(x, i)] = true) (hz : ds.length < sizeLine) (hi : PI X (.Name x px) iter (tI r ds)) (hsl : sl.all (fun q => ![i].contains q.1) = true)
    (he : ∀ d ∈ ds, ∀ q f, q ≠ b → Kp [b] f → ∀ (s : Shared) (H : Hp) (C : Addr) (cl : List (Str × Addr)) (fp : List Addr), PZ (X.blk s H scope (compEnvC scope cl C X.env) fp) (q :: B) sl b f ((wipeD r [i]).set i (some d)) elt k2 (P2 d))
    (e1 : X.N = N0 := by rfl) (e2 : X.env.scope = sc0 := by rfl) (hx : scope.names.lookup x = some .local := by rfl) (hxi : N0[i]? = some x := by rfl) (hs : ∀ x, foldedSetIterable iter X.env x = pure x := by intro _; rfl) :
    PZ X B sl b fr r (.ListComp elt [⟨.Name x px, iter, [], 0⟩] scope pos) (k2 * ds.length) (fun d => ∃ es, Outs (fun _ c => c = true) P2 ds es ∧ d = .list es) := fun n =>
  (pe_lc (own := [(x, i)]) (g := gName i) hc hN hi (by rw [e1, e2]; exact blkOk_by ok) (fun _ _ _ _ _ => pg_name (i := i) hN (by show X.N[i]? = some x; rw [e1]; exact hxi) (Or.inl (loc_blk hx)) (.inr (loc_blk hx))) (fun s H C cl fp => pts_nil) (fun s H C cl fp => te_z (P1 := fun _ c => c = true) fun d hd hp q f hq hff => he d hd q f hq hff s H C cl fp) hs).wkS fun σ H Q ⟨a, kk⟩ =>
    lc_Z (k1 := 0) (k2 := k2) (P1 := fun _ c => c = true) (P2 := P2) (n := n) (u := fun d => (wipeD r [i]).set i (some d)) (g := gName i) (vs := [i]) (ws := [i]) hb hf hz (fun d _ => gd_name) (fun j hj => hj) hsl tt_yes' σ H Q ⟨by rw [Nat.zero_add]; exact a, fun v H' es k1 ho a' rv => kk v H' _ k1 ⟨es, ho, rfl⟩ a' rv⟩
/-- [elt for x, y in iter] -/
theorem pz_lcP (i j : Nat) {x y : Str} {px py pt : Pos} {kt : Nat} (hb : b ∈ B) (hf : Kp [b] fr) (hc : X.calm = true) (hN : X.N.Nodup) (ok : blkC N0 sc0 scope [(x, i), (y, j)] = true) (hz : ds.length < sizeLine) (hi : PI X (.Tuple [.Name x px, .Name y py] kt pt) iter (tI r ds)) (hsl : sl.all (fun q => ![i, j].contains q.1) = true) (hp : ∀ d ∈ ds, ∃ d1 d2, d = .tuple [d1, d2])
    (he : ∀ d1 d2, .tuple [d1, d2] ∈ ds → ∀ q f, q ≠ b → Kp [b] f → ∀ (s : Shared) (H : Hp) (C : Addr) (cl : List (Str × Addr)) (fp : List Addr), PZ (X.blk s H scope (compEnvC scope cl C X.env) fp) (q :: B) sl b f (((wipeD r [i, j]).set i (some d1)).set j (some d2)) elt k2 (P2 (.tuple [d1, d2])))
    (e1 : X.N = N0 := by rfl) (e2 : X.env.scope = sc0 := by rfl) (hx : scope.names.lookup x = some .local := by rfl) (hy : scope.names.lookup y = some .local := by rfl) (hxi : N0[i]? = some x := by rfl) (hyj : N0[j]? = some y := by rfl) (hs : ∀ x, foldedSetIterable iter X.env x = pure x := by intro _; rfl) :
    PZ X B sl b fr r (.ListComp elt [⟨.Tuple [.Name x px, .Name y py] kt pt, iter, [], 0⟩] scope pos) (k2 * ds.length) (fun d => ∃ es, Outs (fun _ c => c = true) P2 ds es ∧ d = .list es) := fun n => by
  let u : PyData → Rho := fun d => match d with
    | .tuple [d1, d2] => ((wipeD r [i, j]).set i (some d1)).set j (some d2)
    | _ => r
  refine (pe_lc (own := [(x, i), (y, j)]) (g := gTup X.K 2 (gCons (gName i) (gCons (gName j) gNil))) (te := teZ B sl b u ds k2 (fun _ c => c = true) P2) hc hN hi (by rw [e1, e2]; exact blkOk_by ok) (fun _ _ _ _ _ => pg_tup hc (pgs_cons (pg_name (i := i) hN (by show X.N[i]? = some x; rw [e1]; exact hxi) (Or.inl (loc_blk hx)) (.inr (loc_blk hx))) (pgs_cons (pg_name (i := j) hN (by show X.N[j]? = some y; rw [e1]; exact hyj) (Or.inl (loc_blk hy)) (.inr (loc_blk hy))) pgs_nil)) rfl rfl) (fun s H C cl fp => pts_nil) (fun s H C cl fp => te_z fun d hd hpp q f hq hff => ?_) hs).wkS fun σ H Q ⟨a, kk⟩ =>
    lc_Z (k1 := 0) (k2 := k2) (P1 := fun _ c => c = true) (P2 := P2) (n := n) (u := u) (vs := [i, j]) (ws := [i, j]) hb hf hz (fun d hd => ?_) (fun j hj => hj) hsl tt_yes' σ H Q ⟨by rw [Nat.zero_add]; exact a, fun v H' es k1 ho a' rv => kk v H' _ k1 ⟨es, ho, rfl⟩ a' rv⟩
  · obtain ⟨d1, d2, e⟩ := hp d hd
    subst e
    exact he d1 d2 hd q f hq hff s H C cl fp
  · obtain ⟨d1, d2, e⟩ := hp d hd
    subst e
    exact gd_pair
end
end Sv
/-! part Z9 -/
set_option Elab.async false
set_option linter.all false
set_option maxRecDepth 100000
set_option maxHeartbeats 4000000
namespace Sv
open PySem PySem.Spec PyProof.Rows L2
section
variable {X : Cx} {r : Rho} {d d1 d2 : PyData} {e c a o : Expr} {es : List Expr} {ds : List PyData} {pos : Pos} {p : Bool} {B : List Addr} {sl : List (Nat × Addr)} {b : Addr} {fr m : Hp → Prop} {A N M : As} {R : V → Hp → Prop} {rest : List Stmt} {k k1 k2 : Nat} {P P1 P2 : PyData → Prop} {Q Q2 : List PyData → Prop}
def rangeD (n : Nat) : List PyData := (List.range n).map fun i => .int (i : Nat)
theorem rangeD_get {n i : Nat} {d : PyData} (h : (rangeD n)[i]? = some d) : i < n ∧ d = .int (i : Nat) := by
  unfold rangeD at h
  rw [List.getElem?_map] at h
  cases e : (List.range n)[i]? with
  | none => rw [e] at h; cases h
  | some j =>
    rw [e] at h
    obtain ⟨h1, h2⟩ := List.getElem?_eq_some_iff.mp e
    rw [List.getElem_range] at h2
    rw [List.length_range] at h1
    cases h
    exact ⟨h1, by rw [← h2]⟩
theorem rangeD_len (n : Nat) : (rangeD n).length = n := by simp [rangeD]
theorem di_range {tg : Expr} {pp : Pos} {n : Nat} (hn : n ≤ 100000) (hm : X.mg "range" = none) (h : PE X e (tD r (.int (n : Nat)))) (hg : Gl X "range" := by rfl) (hs : starEach [e] X.env = [(false, eval e X.env)] := by rfl) : PI X tg (.Call (.Name "range" pp) [e] [] pos) (tI r (rangeD n)) :=
  (pi_range1 hg hm (pa_cons h pa_nil hs) hs).wkS fun σ H R ⟨B, D, E, k⟩ => ⟨B, D, E, fun v H1 s rv => by
    cases rv
    refine ⟨_, rfl, by omega, by omega, k _ H1 s ⟨fun _ => True, YFn fun i => .int (0 + i), ?_, fun _ _ => trivial, fun i d H2 x H3 B2 hd k y D h1 h2 => ?_⟩⟩
    · have q := walk_range (lo := 0) (n := n)
      rw [rangeD_len]
      exact q
    · obtain ⟨e1, e2⟩ := y
      subst e1
      subst e2
      obtain ⟨_, e3⟩ := rangeD_get hd
      subst e3
      exact ⟨Same.refl _, by
        show Rp B2 H3 (.int (0 + (i : Int))) _
        rw [Int.zero_add]
        exact .int _⟩⟩
/-- a built-in's call -/
theorem pz_callB {x : Str} {id : String} {pp : Pos} {r2 : List V → Hp → VK → Prop} (hc : CallR X (.builtin id) r2) (h : ∀ ds, Q ds → ∃ d, P d ∧ CaD r2 ds d) (hf : Kp [] fr) (hm : X.mg x = none) (hv : bootBuiltins x = some (.builtin id)) (ha : PZA X B sl b fr r (e :: es) k Q) (hg : Gl X x := by rfl) (hn : x ≠ "__name__" := by decide) (hdb : (x == ("__debug__" : Str)) = false := by decide)
    (he : starEach (e :: es) X.env = (false, eval e X.env) :: starEach es X.env := by rfl) (hpl : (backTo pos (starEach es X.env)).any (·.1) = false := by rfl) : PZ X B sl b fr r (.Call (.Name x pp) (e :: es) [] pos) k P := fun n =>
  (pe_callB hc hg hm hv (ha n) hn hdb he hpl).wkS fun σ H QQ ⟨a, kk⟩ => ⟨a, fun vs H1 ds k1 p1 a1 rs => by
    obtain ⟨d, pd, cd⟩ := h ds p1
    exact cd B H1 vs QQ a1.1 rs fun v H2 s2 rv => kk v H2 d (k1.trans (Keep.of s2)) pd (a1.same s2 (bf_kp hf)) rv⟩
theorem cd_max {i j : Int} : CaD (fun xs H Q => ∃ i j, xs = [.int i, .int j] ∧ Q (.int (if j > i then j else i)) H) [.int i, .int j] (.int (if j > i then j else i)) := by
  intro B H xs Q D rs k
  obtain ⟨x, y, e, rx, ry⟩ := rs.two_inv
  subst e
  cases rx
  cases ry
  exact ⟨i, j, rfl, k _ H (Same.refl H) (.int _)⟩
theorem cd_min {i j : Int} : CaD (fun xs H Q => ∃ i j, xs = [.int i, .int j] ∧ Q (.int (if j < i then j else i)) H) [.int i, .int j] (.int (if j < i then j else i)) := by
  intro B H xs Q D rs k
  obtain ⟨x, y, e, rx, ry⟩ := rs.two_inv
  subst e
  cases rx
  cases ry
  exact ⟨i, j, rfl, k _ H (Same.refl H) (.int _)⟩
/-- a and c, a true -/
theorem pz_and {op : Pos} {rs_ : List Expr} (hf : Kp [] fr) (ha : PE X a (tD r (.bool true))) (hc : PZ X B sl b fr r (.BoolOp .And (c :: rs_) pos) k P) : PZ X B sl b fr r (.BoolOp .And (a :: c :: rs_) pos) k P := fun n => (pe_and ha (hc n)).wkS fun σ H QQ ⟨A0, kk⟩ =>
  ⟨B, A0.1, A0.2.1, fun v H1 s rv => by
    cases rv
    exact ⟨true, rfl, iteT ⟨A0.same s (bf_kp hf), fun v H' d k1 pd a' rv => kk v H' d ((Keep.of s).trans k1) pd a' rv⟩⟩⟩
theorem pz_one {op} (h : PZ X B sl b fr r a k P) : PZ X B sl b fr r (.BoolOp op [a] pos) k P := fun n => pe_one (h n)
/-- x, y = a, c, both may draw -/
theorem z_parP (i j : Nat) {x y : Str} {px py pt pt2 : Pos} {kt k2 n : Nat} {P2 : PyData → PyData → Prop} (hb : b ∈ B) (hc : X.calm = true) (ha : PZA X B sl b fr r [a, c] k Q) (hQ : ∀ ds, Q ds → ∃ d1 d2, ds = [d1, d2] ∧ P2 d1 d2) (hr : ∀ d1 d2, P2 d1 d2 → PSs X rest (tZ (AD B sl (BF b n fr) ((r.set i (some d1)).set j (some d2))) N R)) (hN : X.N.Nodup) (hsl : sl.all (fun q => !decide (q.1 = i)) = true := by rfl) (hsl2 : sl.all (fun q => !decide (q.1 = j)) = true := by rfl) (hi : X.N[i]? = some x := by rfl) (hj : X.N[j]? = some y := by rfl) (hij : i ≠ j := by decide)
    (hx : X.env.scope.names.lookup x = some .local := by rfl) (hy : X.env.scope.names.lookup y = some .local := by rfl) (hw : swappedStores [.Tuple [.Name x px, .Name y py] kt pt] (.Tuple [a, c] k2 pt2) X.env = pure (some [x, y]) := by rfl)
    (hs : swapsWithSole [.Tuple [.Name x px, .Name y py] kt pt] (.Tuple [a, c] k2 pt2) pos.line X.env = pure false := by rfl) : PSs X (.Assign [.Tuple [.Name x px, .Name y py] kt pt] (.Tuple [a, c] k2 pt2) pos :: rest) (tZ (AD B sl (BF b (n + k) fr) r) N R) := by
  have h2 : PSs X rest (tZ (fun σ H => ∃ q : PyData × PyData, P2 q.1 q.2 ∧ AD B sl (BF b n fr) ((r.set i (some q.1)).set j (some q.2)) σ H) N R) := z_ex fun q hq => hr q.1 q.2 hq
  exact (pss_cons (ps_par hc hN hi hj hij hx hy (ha n) hw hs) h2).wkS fun Dn σ H ⟨A0, kk, kr⟩ => ⟨A0, fun vs H1 ds k1 p1 a1 rs => by
    obtain ⟨d1, d2, e, p2⟩ := hQ ds p1
    subst e
    obtain ⟨u, v, e, ru, rv⟩ := rs.two_inv
    subst e
    exact ⟨u, v, rfl, ⟨(d1, d2), p2, (a1.set ru hsl).set rv hsl2⟩, kk, kr⟩⟩
/-- x, y, z = a, c, [] -/
theorem z_par3L (i j l : Nat) {x y z : Str} {px py pz pt pt2 pl : Pos} {kt kk2 n : Nat} (G : Addr → Prop) (hG : ∀ H q, Dom B H → fr H → H q = none → G q) (hb : b ∈ B) (hf : Kp [] fr) (hc : X.calm = true) (ha : PZ X B sl b fr r a k1 P1) (hcc : PZ X B sl b fr r c k2 P2) (hr : ∀ q, G q → q ∉ B → ∀ d1 d2, P1 d1 → P2 d2 → PSs X rest (tZ (AD (q :: B) ((l, q) :: sl) (fun H => ML (q :: B) q [] H ∧ BF b n fr H) (((r.set i (some d1)).set j (some d2)).set l none)) N R)) (hil : l < r.length) (hN : X.N.Nodup) (hsl : sl.all (fun q => !decide (q.1 = i)) = true := by rfl) (hsl2 : sl.all (fun q => !decide (q.1 = j)) = true := by rfl) (hsl3 : sl.all (fun q => !decide (q.1 = l)) = true := by rfl) (hi : X.N[i]? = some x := by rfl) (hj : X.N[j]? = some y := by rfl) (hl : X.N[l]? = some z := by rfl) (hij : i ≠ j := by decide) (hil2 : i ≠ l := by decide) (hjl : j ≠ l := by decide)
    (hx : X.env.scope.names.lookup x = some .local := by rfl) (hy : X.env.scope.names.lookup y = some .local := by rfl) (hz : X.env.scope.names.lookup z = some .local := by rfl) (hw : swappedStores [.Tuple [.Name x px, .Name y py, .Name z pz] kt pt] (.Tuple [a, c, .List [] pl] kk2 pt2) X.env = pure (some [x, y, z]) := by rfl)
    (hs : swapsWithSole [.Tuple [.Name x px, .Name y py, .Name z pz] kt pt] (.Tuple [a, c, .List [] pl] kk2 pt2) pos.line X.env = pure false := by rfl)
    (h1 : starEach [a, c, .List [] pl] X.env = (false, eval a X.env) :: starEach [c, .List [] pl] X.env := by rfl) (h2 : starEach [c, .List [] pl] X.env = (false, eval c X.env) :: starEach [.List [] pl] X.env := by rfl) (h3 : starEach [.List [] pl] X.env = (false, eval (.List [] pl) X.env) :: starEach [] X.env := by rfl) :
    PSs X (.Assign [.Tuple [.Name x px, .Name y py, .Name z pz] kt pt] (.Tuple [a, c, .List [] pl] kk2 pt2) pos :: rest) (tZ (AD B sl (BF b (n + (k1 + k2)) fr) r) N R) := by
  have hrr : PSs X rest (tZ (fun σ H => ∃ q : Addr × PyData × PyData, ((G q.1 ∧ q.1 ∉ B) ∧ P1 q.2.1 ∧ P2 q.2.2) ∧ AD (q.1 :: B) ((l, q.1) :: sl) (fun H => ML (q.1 :: B) q.1 [] H ∧ BF b n fr H) (((r.set i (some q.2.1)).set j (some q.2.2)).set l none) σ H) N R) := z_ex fun q hq => hr q.1 hq.1.1 hq.1.2 q.2.1 q.2.2 hq.2.1 hq.2.2
  refine (pss_cons (ps_par3 hc hN hi hj hl hij hil2 hjl hx hy hz (pa_cons (ha (n + k2)) (pa_cons (hcc n) (pa_cons (pe_lst pa_nil) pa_nil h3) h2) h1) hw hs) hrr).wkS fun Dn σ H ⟨A0, kk, kr⟩ => ?_
  refine ⟨by rw [show n + k2 + k1 = n + (k1 + k2) by omega]; exact A0, fun v1 H1 d1 q1 p1 a1 rv1 => ⟨a1, fun v2 H2 d2 q2 p2 a2 rv2 => ⟨Nat.zero_le _, fun q hq => ?_⟩⟩⟩
  have rv1' := rv1.keep (keepB hb q2)
  have a3 := (a2.set rv1' hsl).set rv2 hsl2
  have a4 := AD.mk (i := l) (vs := []) (ds := []) a3 (bf_kp hf) hq .nil hsl3 (by simp; exact hil)
  exact ⟨v1, v2, .ref q, rfl, ⟨(q, d1, d2), ⟨⟨hG H2 q a2.1 a2.2.2.2.2 hq, a2.1.out hq⟩, p1, p2⟩, a4⟩, kk, kr⟩
end
section
variable {P : Program} {w : World} {K : PySem.W.Frag} {mg : Str → Option Value} {base : Heap}
/-! ### _law_answer -/
abbrev N59 : List Str := ["_law_box_here", "_law_is_let", "_law_odd", "_law_is_told"]
theorem sc59 : FnScope N59 ["_law_box_here", "_law_is_let", "_law_odd"] (defScope (top 59)) := ⟨rfl, rfl, rfl, by decide +kernel, rfl, by decide +kernel, by decide +kernel⟩
def P59 : List PyData → Prop := fun ds => ∃ t : Bool, ds = [.bool t, .bool true]
def F59 : List PyData → PyData → Prop := fun ds d => ∃ a : Option Bool, d = ansD a
theorem ok_answer {f : Addr} {fd : FuncData} (F : FnP K "_law_answer" (top 59) f fd) (T : Tx mg) (G50 : Has P w K mg base CX0 2 "_law_take" ["_law_box_here", "_law_below"] (spB P50 F50 1)) (G52 : Has P w K mg base CX0 2 "_law_of" ["_law_box_here", "_law_some"] (spB P52 F52 1)) : FnOk P w K mg base CX0 3 f fd ["_law_box_here", "_law_is_let", "_law_odd"] (spB P59 F59 2) := by
  refine fn_okB F sc59 (fun ds ⟨t, h⟩ => by rw [h]; rfl) fun cdv A outer s H E hr ds hp B b n H0 hb => ?_
  obtain ⟨t, rfl⟩ := hp
  show PSs _ _ (tZ (AD B [(0, b)] _ [none, some (.bool t), some (.bool true), none]) _ _)
  have kb : Kp [b] (Keep [b] H0) := Kp.base fun a ha => .inl ha
  have k0 : Kp [] (Keep [b] H0) := kb.less fun a ha => by cases ha
  refine z_setP 3 (k := 1) (n := n + 1) (P := fun d => ∃ t, d = .bool t) (pz_imp (P1 := fun d => ∃ t, d = .bool t) (pz_cmp (P := fun d => ∃ t, d = .bool t) hb op_ne (fun d1 d2 p1 p2 => ?_) (pz_D (de_var 1 rfl) k0) (pz_and (op := ⟨0, 0, 0, 0⟩) k0 (de_var 2 rfl) (pz_one (pz_cmp (P := fun d => ∃ t, d = .bool t) hb op_eq (fun d1 d2 p1 p2 => ?_) (pz_call G50 hr hb (List.mem_singleton.mpr rfl) kb (pza_D (da_cons de_int da_nil) k0) (fun ds hd => ⟨_, hd, by decide, by decide⟩)) (pz_D de_int k0) k0 (nomark _)))) k0 (nomark _)) (by decide) (fun d h => h)) (fun d1 hd1 => ?_) sc59.nd
  · subst p1
    obtain ⟨t2, rfl⟩ := p2
    exact ⟨_, ⟨_, rfl⟩, od_neF rfl⟩
  · obtain ⟨ds, rfl, m, j, e1, rfl, _⟩ := p1
    subst p2
    exact ⟨_, ⟨_, rfl⟩, od_eqI⟩
  · obtain ⟨t2, rfl⟩ := hd1
    refine z_retP (k := 1) (n := n) (pz_imp (P2 := fun d => ∃ a, d = ansD a) (pz_call G52 hr hb (List.mem_singleton.mpr rfl) kb (pza_D (da_cons (de_lst (da_cons (de_var 3 rfl) (da_cons (de_var 3 rfl) (da_cons de_non da_nil))) (sz_ok rfl)) da_nil) k0) (fun ds hd => ⟨_, hd, by show 0 < 3; decide, by show 3 ≤ 1000; decide⟩)) (by decide) (fun d h => ?_)) fun v H' d pd _ hbx hk rv => ⟨d, pd, hk, hbx, rv⟩
    obtain ⟨ds, rfl, xs, e1, h1⟩ := h
    cases e1
    simp only [List.mem_cons, List.not_mem_nil, or_false] at h1
    rcases h1 with e | e | e <;> subst e
    · exact ⟨some t2, rfl⟩
    · exact ⟨some t2, rfl⟩
    · exact ⟨none, rfl⟩
end
end Sv
/-! part Z10 -/
set_option Elab.async false
set_option linter.all false
set_option maxRecDepth 100000
set_option maxHeartbeats 4000000
namespace Sv
open PySem PySem.Spec PyProof.Rows L2
/-! ### what sessions are drawn -/
structure SesOk (n : Nat) (rs : List Row) : Prop where
  len : rs.length = n
  row : ∀ r ∈ rs, (r.y = r.x ∧ r.a = none) ∧ (0 ≤ r.x ∧ r.x < r.u ∧ r.u ≤ 100) ∧ (namesB r.ns = true ∧ r.ns ≠ []) ∧ r.ns.length ≤ 5 ∧ ∀ z ∈ r.ns, PyData.strOk z = true
  asc : rs.Pairwise (fun r s => r.u < s.u)
theorem SesOk.nil : SesOk 0 [] := ⟨rfl, (fun r h => by cases h), .nil⟩
def okPool (pool : List Str) : Prop := (0 < pool.length ∧ pool.length ≤ 4) ∧ ∀ z ∈ pool, nameB z = true ∧ PyData.strOk z = true
theorem canS_ok {pool ys : List Str} (hp : okPool pool) (h : ∀ y ∈ ys, y ∈ pool) (hl : ys.length ≤ 5) (h0 : ys ≠ []) : (namesB (canS ys) = true ∧ canS ys ≠ []) ∧ (canS ys).length ≤ 5 ∧ ∀ z ∈ canS ys, PyData.strOk z = true := by
  refine ⟨⟨?_, fun e => ?_⟩, Nat.le_trans canS_len hl, fun z hz => (hp.2 z (h z (mem_canS.mp hz))).2⟩
  case refine_2 =>
    cases ys with
    | nil => exact h0 rfl
    | cons y r =>
      have : y ∈ canS (y :: r) := mem_canS.mpr List.mem_cons_self
      rw [e] at this
      cases this
  unfold namesB
  rw [Bool.and_eq_true, List.all_eq_true]
  exact ⟨fun z hz => (hp.2 z (h z (mem_canS.mp hz))).1, pw_asc pw_canS⟩
theorem SesOk.snoc {n : Nat} {rs : List Row} {r : Row} (h : SesOk n rs) (hr : (r.y = r.x ∧ r.a = none) ∧ (0 ≤ r.x ∧ r.x < r.u ∧ r.u ≤ 100) ∧ (namesB r.ns = true ∧ r.ns ≠ []) ∧ r.ns.length ≤ 5 ∧ ∀ z ∈ r.ns, PyData.strOk z = true) (ha : ∀ s ∈ rs, s.u < r.u) : SesOk (n + 1) (rs ++ [r]) := by
  refine ⟨by rw [List.length_append, h.len]; rfl, fun s hs => ?_, ?_⟩
  · rcases List.mem_append.mp hs with q | q
    · exact h.row s q
    · rw [List.mem_singleton] at q
      rw [q]; exact hr
  · rw [List.pairwise_append]
    refine ⟨h.asc, List.pairwise_singleton _ _, fun s hs t ht => ?_⟩
    rw [List.mem_singleton] at ht
    rw [ht]
    exact ha s hs
theorem strs_of {es : List PyData} {pool : List Str} (h : ∀ e ∈ es, ∃ y ∈ pool, e = .str y) : ∃ ys : List Str, es = ys.map .str ∧ ∀ y ∈ ys, y ∈ pool := by
  induction es with
  | nil => exact ⟨[], rfl, fun y hy => by cases hy⟩
  | cons e es ih =>
    obtain ⟨y, hy, rfl⟩ := h e List.mem_cons_self
    obtain ⟨ys, h1, h2⟩ := ih fun e he => h e (List.mem_cons_of_mem _ he)
    refine ⟨y :: ys, by rw [h1]; rfl, fun z hz => ?_⟩
    rcases List.mem_cons.mp hz with q | q
    · rw [q]; exact hy
    · exact h2 z q
section
variable {P : Program} {w : World} {K : PySem.W.Frag} {mg : Str → Option Value} {base : Heap}
abbrev N55 : List Str := ["_law_box_here", "_law_size_all", "_law_pool_so", "_law_wide_so", "_law_beat_so", "_law_rows", "_law_turn", "_law_from_so", "_law_mine_so", "_law_own"]
theorem sc55 : FnScope N55 ["_law_box_here", "_law_size_all", "_law_pool_so"] (defScope (top 55)) := ⟨rfl, rfl, rfl, by decide +kernel, rfl, by decide +kernel, by decide +kernel⟩
def P55 : List PyData → Prop := fun ds => ∃ (n : Nat) (pool : List Str), ds = [.int (n : Nat), .list (pool.map .str)] ∧ n ≤ 6 ∧ okPool pool
def F55 : List PyData → PyData → Prop := fun ds d => ∃ (n : Nat) (l : PyData) (rs : List Row), ds = [.int (n : Nat), l] ∧ SesOk n rs ∧ d = .tuple (rs.map (rowD false))
theorem ok_sessions {f : Addr} {fd : FuncData} (F : FnP K "_law_sessions" (top 55) f fd) (T : Tx mg) (G50 : Has P w K mg base CX0 2 "_law_take" ["_law_box_here", "_law_below"] (spB P50 F50 1)) (G52 : Has P w K mg base CX0 2 "_law_of" ["_law_box_here", "_law_some"] (spB P52 F52 1)) : FnOk P w K mg base CX0 3 f fd ["_law_box_here", "_law_size_all", "_law_pool_so"] (spB P55 F55 50) := by
  refine fn_okB F sc55 (fun ds ⟨n, pool, h, _⟩ => by rw [h]; rfl) fun cdv A outer s H E hr ds hp B b n H0 hb => ?_
  obtain ⟨sz, pool, rfl, hsz, hpl⟩ := hp
  show PSs _ _ (tZ (AD B [(0, b)] _ [none, some (.int (sz : Nat)), some (.list (pool.map .str)), none, none, none, none, none, none, none]) _ _)
  have kb : Kp [b] (Keep [b] H0) := Kp.base fun a ha => .inl ha
  have k0 : Kp [] (Keep [b] H0) := kb.less fun a ha => by cases ha
  refine z_pre (A := AD B [(0, b)] (BF b ((n + 7 * sz) + (1 + (1 + 0))) (Keep [b] H0)) _) ?_ fun σ H h => h.fuel (by omega)
  refine z_par3L 3 4 5 (fun q => H0 q = none) (fun H q D k hq => ?_) hb k0 rfl (pz_call G52 hr hb (List.mem_singleton.mpr rfl) kb (pza_D (da_cons (de_lst (da_cons de_int (da_cons de_int (da_cons de_int (da_cons de_int da_nil)))) (sz_ok rfl)) da_nil) k0) (fun ds hd => ⟨_, hd, by show 0 < 4; decide, by show 4 ≤ 1000; decide⟩)) (pz_call G50 hr hb (List.mem_singleton.mpr rfl) kb (pza_D (da_cons de_int da_nil) k0) (fun ds hd => ⟨_, hd, by decide, by decide⟩)) (fun q hq0 hqB d1 d2 p1 p2 => ?_) (Nat.le_of_ble_eq_true rfl) sc55.nd
  · cases e : H0 q with
    | none => rfl
    | some o =>
      by_cases z : q = b
      · subst z
        exact absurd hq (D _ hb)
      · rw [k q o (by simp [z]) e] at hq; cases hq
  obtain ⟨ds1, rfl, xs, e1, h1⟩ := p1
  cases e1
  obtain ⟨wd, rfl, hw0, hw1⟩ : ∃ wd : Int, d1 = .int wd ∧ 0 < wd ∧ wd ≤ 30 := by
    simp only [List.mem_cons, List.not_mem_nil, or_false] at h1
    rcases h1 with e | e | e | e <;> subst e <;> exact ⟨_, rfl, by decide, by decide⟩
  obtain ⟨ds2, rfl, m2, j2, e2, rfl, hj0, hj1⟩ := p2
  cases e2
  have nqb : q ≠ b := fun e => hqB (e ▸ hb)
  have hbB : b ∈ q :: B := List.mem_cons_of_mem _ hb
  refine z_for (κ := Int × List Row) (ws := [6]) (fun i a => SesOk i a.2 ∧ (0 ≤ a.1 ∧ a.1 ≤ 3 + 3 * (i : Nat)) ∧ ∀ r ∈ a.2, r.u ≤ a.1) (fun i a H => ML (q :: B) q (a.2.map (rowD false)) H ∧ BF b (n + 7 * (sz - i)) (Keep [b] H0) H)
    (fun i a => [none, some (.int (sz : Nat)), some (.list (pool.map .str)), some (.int wd), some (.int a.1), none, none, none, none, none]) (fun i a => [none, some (.int (sz : Nat)), some (.list (pool.map .str)), some (.int wd), some (.int a.1), none, some (.int (i : Nat)), none, none, none]) (j2, []) ⟨SesOk.nil, ⟨hj0, by omega⟩, fun r h => by cases h⟩ PassesOwn.never rfl
    (fun i a => kp_ml (bf_kp k0)) (di_range (by omega) T.range (de_var 1 rfl)) (pg_name (i := 6) sc55.nd rfl (Or.inl rfl)) (fun i a d hd _ => ?_) rfl (fun fr hfr i a hi hC => ?_) (fun a hC => ?_)
  · obtain ⟨_, e⟩ := rangeD_get hd
    subst e
    exact gd_name
  · rw [rangeD_len] at hi
    obtain ⟨t, rs⟩ := a
    obtain ⟨hS, ⟨ht0, ht1⟩, hu⟩ := hC
    have kq : Kp [b] (fun H => ML (q :: B) q (rs.map (rowD false)) H ∧ (Keep [b] H0 H ∧ fr H)) := Kp.and (Kp.ml (by simp [nqb]) fun a ha => by rw [List.mem_singleton] at ha; rw [ha]; exact hbB) (kb.and (hfr.less fun a ha => by rw [List.mem_singleton] at ha; rw [ha]; exact hbB))
    have kq0 := kq.less (G := []) fun a ha => by cases ha
    have nx : n + 7 * (sz - i) = n + 7 * (sz - (i + 1)) + 7 := by omega
    refine z_pre (A := AD (q :: B) [(5, q), (0, b)] (BF b ((n + 7 * (sz - (i + 1)) + 6) + 1) (fun H => ML (q :: B) q (rs.map (rowD false)) H ∧ (Keep [b] H0 H ∧ fr H))) _) ?_ fun σ H h => h.imp fun H q => ⟨by have z := q.1.2.1; rw [nx] at z; exact z, q.1.1, q.1.2.2, q.2⟩
    have hmb : ((0 : Nat), b) ∈ [((5 : Nat), q), (0, b)] := List.mem_cons_of_mem _ (List.mem_singleton.mpr rfl)
    refine z_setP 4 (P := fun d => ∃ t' : Int, d = .int t' ∧ t < t' ∧ t' ≤ t + 3) (pz_imp (k1 := 0 + 1) (pz_bin (P := fun d => ∃ t' : Int, d = .int t' ∧ t < t' ∧ t' ≤ t + 3) hbB op_add (fun d1 d2 p1 p2 => ?_) (pz_D (de_add (de_var 4 rfl) de_int) kq0) (pz_call G52 hr hbB hmb kq (pza_D (da_cons (de_lst (da_cons de_int (da_cons de_int (da_cons de_int (da_cons de_int (da_cons de_int da_nil))))) (sz_ok rfl)) da_nil) kq0) (fun ds hd => ⟨_, hd, by show 0 < 5; decide, by show 5 ≤ 1000; decide⟩)) kq0) (by decide) (fun d h => h)) (fun d3 hd3 => ?_) sc55.nd
    · subst p1
      obtain ⟨ds, rfl, xs, e1, h1⟩ := p2
      cases e1
      simp only [List.mem_cons, List.not_mem_nil, or_false] at h1
      rcases h1 with e | e | e | e | e <;> subst e <;> exact ⟨_, ⟨_, rfl, by omega, by omega⟩, od_add⟩
    · obtain ⟨t', rfl, hlt, hle⟩ := hd3
      refine z_setP 7 (n := n + 7 * (sz - (i + 1)) + 5) (k := 1) (P := fun d => ∃ x : Int, d = .int x ∧ 0 ≤ x ∧ x < t') (pz_imp (k1 := 0 + (0 + 1 + 0)) (P1 := fun d => ∃ x : Int, d = .int x ∧ 0 ≤ x ∧ x < t') (pz_callB (call_max2 rfl) (fun ds hd => ?_) kq0 T.max (by decide +kernel) (pza_cons hbB (pz_D de_int kq0) (pza_cons hbB (pz_bin (P := fun d => ∃ x : Int, d = .int x ∧ x < t') hbB op_sub (fun d1 d2 p1 p2 => ?_) (pz_D (de_sub (de_var 4 rfl) de_int) kq0) (pz_call G50 hr hbB hmb kq (pza_D (da_cons (de_var 3 rfl) da_nil) kq0) (fun ds hd => ⟨_, hd, hw0, by omega⟩)) kq0) (pza_D da_nil kq0)))) (by decide) (fun d h => h)) (fun d4 hd4 => ?_) sc55.nd
      · obtain ⟨d1, ds', rfl, e1, d2, ds'', rfl, ⟨x, rfl, hx⟩, e3⟩ := hd
        subst e1
        subst e3
        refine ⟨_, ⟨_, rfl, ?_, ?_⟩, cd_max⟩ <;> split <;> omega
      · subst p1
        obtain ⟨ds, rfl, m, j, e1, rfl, h0, h1⟩ := p2
        exact ⟨_, ⟨_, rfl, by omega⟩, od_sub⟩
      · obtain ⟨x, rfl, hx0, hx1⟩ := hd4
        refine z_setP 8 (n := n + 7 * (sz - (i + 1))) (k := 5) (P := fun d => ∃ ys : List Str, d = .list (ys.map .str) ∧ (∀ y ∈ ys, y ∈ pool) ∧ ys.length ≤ 5 ∧ ys ≠ []) (pz_imp (k1 := (1 + 0) + (1 + 0 + 0) * (pool.map PyData.str).length) (P1 := fun d => ∃ ys : List Str, d = .list (ys.map .str) ∧ (∀ y ∈ ys, y ∈ pool) ∧ ys.length ≤ 5 ∧ ys ≠ []) (pz_bin (P := fun d => ∃ ys : List Str, d = .list (ys.map .str) ∧ (∀ y ∈ ys, y ∈ pool) ∧ ys.length ≤ 5 ∧ ys ≠ []) hbB op_cat (fun d1 d2 p1 p2 => ?_)
          (pz_lst (pza_cons hbB (pz_call G52 hr hbB hmb kq (pza_D (da_cons (de_var 2 rfl) da_nil) kq0) (fun ds hd => ⟨_, hd, by rw [List.length_map]; exact hpl.1.1, by rw [List.length_map]; have := hpl.1.2; omega⟩)) (pza_D da_nil kq0)) (fun ds hd => ?_) kq0)
          (pz_lcIf (N0 := N55) (sc0 := defScope (top 55)) 9 (P1 := fun _ _ => True) (P2 := fun d e => e = d) hbB kq rfl sc55.nd (by decide +kernel) (by rw [List.length_map, sizeLine_eq]; have := hpl.1.2; omega) (di_list (de_var 2 rfl)) rfl (fun d hd q' f hq' hf' s H C cl fp => ?_) (fun d hd _ q' f hq' hf' s H C cl fp => pz_D (de_var 9 rfl) (hf'.less fun a ha => by cases ha))) kq0) (by rw [List.length_map]; have := hpl.1.2; omega) (fun d h => h)) (fun d5 hd5 => ?_) sc55.nd
        · obtain ⟨ds, ⟨d3, ds', rfl, ⟨ds3, rfl, xs, e3, h3⟩, e4⟩, rfl⟩ := p1
          subst e4
          cases e3
          obtain ⟨es, ho, rfl⟩ := p2
          obtain ⟨y, hy, e5⟩ := List.mem_map.mp h3
          subst e5
          obtain ⟨ys, e6, h6⟩ := strs_of (es := es) (pool := pool) fun e he => by
            obtain ⟨d, hd, _, e7⟩ := ho.mem e he
            obtain ⟨z, hz, e8⟩ := List.mem_map.mp hd
            exact ⟨z, hz, by rw [e7, ← e8]⟩
          have ly : ys.length ≤ 4 := by
            have h7 := ho.len
            rw [e6, List.length_map, List.length_map] at h7
            have := hpl.1.2
            omega
          subst e6
          exact ⟨_, ⟨y :: ys, rfl, fun z hz => by
            rcases List.mem_cons.mp hz with q | q
            · rw [q]; exact hy
            · exact h6 z q, by simp only [List.length_cons]; omega, List.cons_ne_nil _ _⟩, od_catL (by simp only [List.length_cons, List.length_nil, List.length_map]; rw [sizeLine_eq]; omega)⟩
        · obtain ⟨d3, ds', rfl, _, e4⟩ := hd
          subst e4
          exact sz_ok rfl
        · have hbq : b ∈ q' :: q :: B := List.mem_cons_of_mem _ hbB
          refine pzt_cmp hbq op_eq (fun d1 d2 p1 p2 => ?_) (pz_call G50 hr hbq hmb hf' (pza_D (da_cons de_int da_nil) (hf'.less fun a ha => by cases ha)) (fun ds hd => ⟨_, hd, by decide, by decide⟩)) (pz_D de_int (hf'.less fun a ha => by cases ha)) (hf'.less fun a ha => by cases ha) (nomark _)
          obtain ⟨ds, rfl, m, j, e1, rfl, _⟩ := p1
          subst p2
          exact ⟨_, trivial, od_eqI⟩
        · obtain ⟨ys, rfl, hy1, hy2, hy3⟩ := hd5
          obtain ⟨c1, c2, c3⟩ := canS_ok hpl hy1 hy2 hy3
          refine z_pre (A := AD (q :: B) [(5, q), (0, b)] (fun H => ML (q :: B) q (rs.map (rowD false)) H ∧ (BF b (n + 7 * (sz - (i + 1))) (fun H => Keep [b] H0 H ∧ fr H) H)) _) ?_ fun σ H h => h.imp fun H q => ⟨q.2.1, q.1, q.2.2⟩
          refine z_app 5 List.mem_cons_self List.mem_cons_self (Kp.and (Kp.bx (by simp [Ne.symm nqb])) (Kp.and (Kp.base fun a ha => by rw [List.mem_singleton] at ha; exact .inr (by rw [ha]; exact hq0)) (hfr.less fun a ha => by rw [List.mem_singleton] at ha; rw [ha]; exact List.mem_cons_self))) (de_tup (da_cons (de_var 7 rfl) (da_cons (de_var 4 rfl) (da_cons (de_tupL T.tuple (de_sortSet rfl T.sorted T.set (Or.inl rfl) (by omega) (de_var 8 rfl))) da_nil))) (sz_ok rfl)) (by rw [List.length_map, hS.len, sizeLine_eq]; omega) (z_nil fun σ H h => ?_)
          refine ⟨(t', rs ++ [⟨x, x, t', canS ys, none⟩]), ⟨hS.snoc ⟨⟨rfl, rfl⟩, ⟨hx0, hx1, by show t' ≤ 100; omega⟩, c1, c2, c3⟩ fun s hs => by have := hu s hs; show s.u < t'; omega, ⟨by show 0 ≤ t'; omega, by show t' ≤ _; omega⟩, fun r hr => ?_⟩, ?_⟩
          · rcases List.mem_append.mp hr with q | q
            · have := hu r q
              show r.u ≤ t'
              omega
            · rw [List.mem_singleton] at q
              rw [q]
              exact Int.le_refl _
          · have hh := ((h.drop 6).drop 7).drop 8
            rw [List.map_append]
            exact hh.imp fun H q => ⟨⟨q.1, q.2.1, q.2.2.1⟩, q.2.2.2⟩
  · rw [rangeD_len] at hC
    rw [rangeD_len]
    obtain ⟨t, rs⟩ := a
    refine z_frz 5 List.mem_cons_self hqB (z_ret (z_D (de_tupL T.tuple (de_var 5 rfl)) (bf_kp k0)) fun σ v H' qq => ⟨_, ⟨sz, _, rs, rfl, hC.1, rfl⟩, qq.1.2.2.2.2, qq.1.2.2.2.1.less (by omega), qq.2⟩)
end
end Sv
/-! part Y1 -/
set_option Elab.async false
set_option linter.all false
set_option maxRecDepth 100000
set_option maxHeartbeats 4000000
namespace Sv
open PySem PySem.Spec PyProof.Rows L2
section
variable {P : Program} {w : World} {K : PySem.W.Frag} {mg : Str → Option Value} {base : Heap}
def rowsD (rs : List Row) : PyData := .tuple (rs.map (rowD false))
theorem row_at {rs : List Row} {k : Nat} (h : k < rs.length) : ∃ r, rs[k]? = some r ∧ L2.atI (rs.map (rowD false)) ((k : Nat) : Int) = some (.tuple [.int r.x, .int r.u, namesD r.ns]) := by
  refine ⟨rs[k], List.getElem?_eq_getElem h, ?_⟩
  unfold L2.atI ixN
  rw [if_pos (Int.natCast_nonneg _), if_pos (by rw [List.length_map]; omega)]
  show (rs.map (rowD false))[(k : Int).toNat]? = _
  rw [Int.toNat_natCast, List.getElem?_map, List.getElem?_eq_getElem h]
  rfl
/-! ### _law_is_amid -/
abbrev N56 : List Str := ["_law_rows", "_law_k", "_law_j"]
theorem sc56 : FnScope N56 ["_law_rows", "_law_k", "_law_j"] (defScope (top 56)) := ⟨rfl, rfl, rfl, by decide +kernel, rfl, by decide +kernel, by decide +kernel⟩
def amid (rs : List Row) (k j : Nat) : Bool := match rs[k]?, rs[j]? with
  | some r, some s => decide (s.x < r.u) && decide (r.u < s.u)
  | _, _ => false
abbrev F56 : List PyData → PyData → Prop := fun ds d => ∃ (rs : List Row) (k j : Nat), ds = [rowsD rs, .int (k : Nat), .int (j : Nat)] ∧ (k < rs.length ∧ j < rs.length) ∧ d = .bool (amid rs k j)
theorem ok_amid {f : Addr} {fd : FuncData} (F : FnP K "_law_is_amid" (top 56) f fd) (T : Tx mg) : FnOk P w K mg base CX0 1 f fd ["_law_rows", "_law_k", "_law_j"] (spF F56) := by
  refine fn_ok F sc56 (fun ds d ⟨rs, k, j, h, _⟩ => by rw [h]; rfl) fun cdv A outer s H E hr ds d hF => ?_
  obtain ⟨rs, k, j, rfl, ⟨hk, hj⟩, rfl⟩ := hF
  obtain ⟨r, e1, a1⟩ := row_at hk
  obtain ⟨t, e2, a2⟩ := row_at hj
  show PSs _ _ (tS [some (rowsD rs), some (.int (k : Nat)), some (.int (j : Nat))] _ _)
  refine ds_ret (de_chain op_lt op_lt od_lt od_lt (de_ixT (d := .int t.x) rfl (de_ixT a2 (de_var 0 rfl) (de_var 2 rfl)) de_int) (de_ixT (d := .int r.u) rfl (de_ixT a1 (de_var 0 rfl) (de_var 1 rfl)) de_int) (de_ixT (d := .int t.u) rfl (de_ixT a2 (de_var 0 rfl) (de_var 2 rfl)) de_int)) ?_
  unfold amid
  rw [e1, e2]
/-! ### _law_meet -/
abbrev N57 : List Str := ["_law_rows", "_law_k", "_law_j", "_law_own"]
theorem sc57 : FnScope N57 ["_law_rows", "_law_k", "_law_j"] (defScope (top 57)) := ⟨rfl, rfl, rfl, by decide +kernel, rfl, by decide +kernel, by decide +kernel⟩
abbrev F57 : List PyData → PyData → Prop := fun ds d => ∃ (rs : List Row) (k j : Nat) (r t : Row), ds = [rowsD rs, .int (k : Nat), .int (j : Nat)] ∧ (rs[k]? = some r ∧ rs[j]? = some t ∧ r.ns.length ≤ 10) ∧ d = .tuple ((r.ns.filter fun z => t.ns.any fun y => PyData.eqv (.str y) (.str z)).map .str)
theorem ok_meet {f : Addr} {fd : FuncData} (F : FnP K "_law_meet" (top 57) f fd) (T : Tx mg) : FnOk P w K mg base CX0 1 f fd ["_law_rows", "_law_k", "_law_j"] (spF F57) := by
  refine fn_ok F sc57 (fun ds d ⟨rs, k, j, r, t, h, _⟩ => by rw [h]; rfl) fun cdv A outer s H E hr ds d hF => ?_
  obtain ⟨rs, k, j, r, t, rfl, ⟨e1, e2, hl⟩, rfl⟩ := hF
  obtain ⟨r', e1', a1⟩ := row_at (List.getElem?_eq_some_iff.mp e1).1
  rw [e1] at e1'
  cases e1'
  obtain ⟨t', e2', a2⟩ := row_at (List.getElem?_eq_some_iff.mp e2).1
  rw [e2] at e2'
  cases e2'
  show PSs _ _ (tS [some (rowsD rs), some (.int (k : Nat)), some (.int (j : Nat)), none] _ _)
  refine ds_ret (de_tupL T.tuple (de_of (LcOk.pe (lk_IfN (N0 := N57) (sc0 := defScope (top 57)) 3 (ds := r.ns.map .str) (p := fun d => (t.ns.map .str).any fun y => PyData.eqv y d) (f := fun d => d) sc57.nd (by decide +kernel) (by rw [List.length_map, sizeLine_eq]; omega) (di_tup (de_ixT (d := namesD r.ns) rfl (de_ixT a1 (de_var 0 rfl) (de_var 1 rfl)) de_int)) (fun d hd s H C cl fp => ?_) (fun d hd _ s H C cl fp => de_var 3 rfl)) rfl sc57.nd) ?_)) rfl
  · obtain ⟨z, _, e⟩ := List.mem_map.mp hd
    subst e
    exact dt_cmp op_in_seq (od_inT (ds := t.ns.map .str) rfl (by rw [List.all_map]; exact List.all_eq_true.mpr fun _ _ => rfl)) (de_var 3 rfl) (de_ixT (d := namesD t.ns) rfl (de_ixT a2 (de_var 0 rfl) (de_var 2 rfl)) de_int) rfl
  · rw [List.map_id'', List.filter_map]
    · congr 2
      congr 1
      funext z
      show (t.ns.map PyData.str).any _ = _
      rw [List.any_map]
      rfl
    · intro d; rfl
end
end Sv
/-! part Y2 -/
set_option Elab.async false
set_option linter.all false
set_option maxRecDepth 100000
set_option maxHeartbeats 4000000
namespace Sv
open PySem PySem.Spec PyProof.Rows L2
/-! ### ints in order -/
theorem pwI_uniq : ∀ {xs ys : List Int}, xs.Pairwise (· < ·) → ys.Pairwise (· < ·) → (∀ k, k ∈ xs ↔ k ∈ ys) → xs = ys
  | [], [], _, _, _ => rfl
  | [], y :: ys, _, _, h => absurd ((h y).mpr List.mem_cons_self) (by simp)
  | x :: xs, [], _, _, h => absurd ((h x).mp List.mem_cons_self) (by simp)
  | x :: xs, y :: ys, p, q, h => by
    obtain ⟨p1, p2⟩ := List.pairwise_cons.mp p
    obtain ⟨q1, q2⟩ := List.pairwise_cons.mp q
    have e : x = y := by
      rcases List.mem_cons.mp ((h x).mp List.mem_cons_self) with e | e
      · exact e
      · rcases List.mem_cons.mp ((h y).mpr List.mem_cons_self) with f | f
        · exact f.symm
        · have := p1 y f
          have := q1 x e
          omega
    subst e
    congr 1
    refine pwI_uniq p2 q2 fun k => ⟨fun hk => ?_, fun hk => ?_⟩
    · rcases List.mem_cons.mp ((h k).mp (List.mem_cons_of_mem _ hk)) with z | z
      · have := p1 k hk
        omega
      · exact z
    · rcases List.mem_cons.mp ((h k).mpr (List.mem_cons_of_mem _ hk)) with z | z
      · have := q1 k hk
        omega
      · exact z
theorem nodup_of_lt {xs : List Int} (h : xs.Pairwise (· < ·)) : xs.Nodup := h.imp fun {a b} h e => by subst e; exact Int.lt_irrefl _ h
theorem sorted_same {xs ys : List Int} (hp : ys.Perm xs) (hs : ys.Pairwise (· ≤ ·)) (hx : xs.Pairwise (· < ·)) : ys = xs :=
  pwI_uniq (L2.lt_of_le_nodup ys hs (hp.nodup_iff.mpr (nodup_of_lt hx))) hx fun k => hp.mem_iff
def minI : List Int → Int
  | [] => 0
  | [x] => x
  | x :: y :: r => if x ≤ minI (y :: r) then x else minI (y :: r)
theorem minI_ok : ∀ {xs : List Int}, xs ≠ [] → minI xs ∈ xs ∧ ∀ y ∈ xs, minI xs ≤ y
  | [], h => absurd rfl h
  | [x], _ => ⟨List.mem_cons_self, fun y hy => by rw [List.mem_singleton] at hy; rw [hy]; exact Int.le_refl _⟩
  | x :: y :: r, _ => by
    obtain ⟨h1, h2⟩ := minI_ok (xs := y :: r) (by simp)
    unfold minI
    split
    · rename_i c
      exact ⟨List.mem_cons_self, fun z hz => by
        rcases List.mem_cons.mp hz with e | e
        · rw [e]; exact Int.le_refl _
        · exact Int.le_trans c (h2 z e)⟩
    · rename_i c
      exact ⟨List.mem_cons_of_mem _ h1, fun z hz => by
        rcases List.mem_cons.mp hz with e | e
        · rw [e]; omega
        · exact h2 z e⟩
section
variable {X : Cx} {r : Rho} {d d1 d2 : PyData} {e c a o : Expr} {es : List Expr} {ds : List PyData} {pos : Pos} {p : Bool} {B : List Addr} {sl : List (Nat × Addr)} {m : Hp → Prop} {A N M : As} {R : V → Hp → Prop} {rest : List Stmt} {q : Addr}
theorem de_sortedI {pp : Pos} {xs : List Int} (hm : X.mg "sorted" = none) (hx : xs.Pairwise (· < ·)) (hl : xs.length < 64) (h : PE X e (tD r (.list (xs.map .int)))) (hg : Gl X "sorted" := by rfl) (he : starEach [e] X.env = (false, eval e X.env) :: starEach [] X.env := by rfl) : PE X (.Call (.Name "sorted" pp) [e] [] pos) (tD r (.list (xs.map .int))) := by
  refine de_callB cr_sorted ?_ hm (by decide +kernel) (da_cons h da_nil he) hg (by decide) (by decide) he
  intro B H vs Q D rs k
  obtain ⟨x, e, rx⟩ := rs.one_inv
  subst e
  obtain ⟨a, ys, e, h, n, s⟩ := rx.list_inv
  subst e
  have := s.ints
  subst this
  refine ⟨a, xs, rfl, .inl h, hl, fun ns' l hp hs hn => ?_⟩
  have e2 := sorted_same hp hs hx
  subst e2
  exact k _ _ (same_new hn) (Rp.lst_new hn D (Rps.int _))
theorem de_minI {pp : Pos} {xs : List Int} (hc : X.calm = true) (hm : X.mg "min" = none) (hx : xs ≠ []) (h : PE X e (tD r (.list (xs.map .int)))) (hg : Gl X "min" := by rfl) (he : starEach [e] X.env = (false, eval e X.env) :: starEach [] X.env := by rfl) : PE X (.Call (.Name "min" pp) [e] [] pos) (tD r (.int (minI xs))) := by
  refine de_callB (cr_min hc) ?_ hm (by decide +kernel) (da_cons h da_nil he) hg (by decide) (by decide) he
  intro B H vs Q D rs k
  obtain ⟨x, e, rx⟩ := rs.one_inv
  subst e
  obtain ⟨a, ys, e, h, n, s⟩ := rx.list_inv
  subst e
  have := s.ints
  subst this
  refine ⟨a, xs, rfl, .inl h, List.length_pos_iff.mpr hx, fun m h1 h2 => ?_⟩
  obtain ⟨h3, h4⟩ := minI_ok hx
  have e2 : m = minI xs := Int.le_antisymm (h2 _ h3) (h4 m h1)
  rw [e2]
  exact k _ H (Same.refl H) (.int _)
/-- a for over a list that is written elsewhere, its items flat -/
theorem z_forM {κ : Type} (il : Nat) {x y : Str} {px py : Pos} {body : List Stmt} {j : Nat} (C : Nat → κ → Prop) (mm : Nat → κ → Hp → Prop) (u v : Nat → κ → Rho) (k0 : κ) (h0 : C 0 k0) (hp : PassesOwn (model X.prog X.w) X.A X.env X.xe) (hc : X.calm = true) (hm : ∀ i k, Kp [] (mm i k)) (hil : (il, q) ∈ sl) (hq : q ∉ B) (hfl : ds.all flatD = true) (hgp : PG X (.Name y py) (gName j))
    (hg : ∀ i k d, ds[i]? = some d → C i k → v i k = (u i k).set j (some d)) (hsl : sl.all (fun q => ![j].contains q.1) = true)
    (hb : ∀ (fr : Hp → Prop), Kp B fr → ∀ i k, i < ds.length → C i k → PSs X body (tZ (AD (q :: B) sl (fun H => ML (q :: B) q ds H ∧ mm i k H ∧ fr H) (v i k)) (fun σ H => ∃ k', C (i + 1) k' ∧ AD (q :: B) sl (fun H => ML (q :: B) q ds H ∧ mm (i + 1) k' H ∧ fr H) (u (i + 1) k') σ H) R))
    (hr : ∀ k, C ds.length k → PSs X rest (tZ (AD (q :: B) sl (fun H => ML (q :: B) q ds H ∧ mm ds.length k H) (u ds.length k)) N R)) (hN : X.N[il]? = some x := by rfl) (hv : Vis X.env.scope x := by first | exact Or.inl rfl | exact Or.inr (Or.inl rfl) | exact Or.inr (Or.inr rfl)) (hdb : (x == ("__debug__" : Str)) = false := by decide) (hcd : (x == ("__classdict__" : Str)) = false := by decide) (hs : ∀ z, foldedSetIterable (.Name x px) X.env z = pure z := by intro _; rfl) :
    PSs X (.For (.Name y py) (.Name x px) body [] pos :: rest) (tZ (AD (q :: B) sl (fun H => ML (q :: B) q ds H ∧ mm 0 k0 H) (u 0 k0)) N R) := by
  refine ⟨fun pins s σ H Dn I z => ?_⟩
  obtain ⟨⟨D, E, sls, ⟨vs, e1, rs⟩, hm0⟩, k, k2⟩ := z
  let TB : Hp → TS := fun H1 Dn σ H => ∃ a : Nat × κ, (a.1 < ds.length ∧ C a.1 a.2) ∧ tZ (AD (q :: B) sl (fun H => ML (q :: B) q ds H ∧ mm a.1 a.2 H ∧ Keep B H1 H) (v a.1 a.2)) (fun σ H => ∃ k', C (a.1 + 1) k' ∧ AD (q :: B) sl (fun H => ML (q :: B) q ds H ∧ mm (a.1 + 1) k' H ∧ Keep B H1 H) (u (a.1 + 1) k') σ H) R Dn σ H
  have hbe : ∀ H1, PSs X body (TB H1) := fun H1 => PSs.ex (C := fun a : Nat × κ => a.1 < ds.length ∧ C a.1 a.2) fun a ha => hb (Keep B H1) (Kp.base fun b hb => .inl hb) a.1 a.2 ha.1 ha.2
  have hbx : PSs X body (fun Dn σ H => ∃ H1, TB H1 Dn σ H) := ⟨fun pins s σ H D I ⟨H1, q⟩ => (hbe H1).run pins s σ H D I q⟩
  have hfor := ps_for (pos := pos) hp hc (pi_list (tg := .Name y py) (pe_var hN hv hdb hcd)) hgp hbx hs
  refine wpAny_execs_cons (thn (hfor.run pins s σ H { Dn with nx := fun σ' H' => ∃ k, C ds.length k ∧ AD (q :: B) sl (fun H => ML (q :: B) q ds H ∧ mm ds.length k H) (u ds.length k) σ' H' } I ⟨.ref q, sls _ hil, q, rfl, ⟨vs, .inl (.inl e1)⟩, ?_⟩) fun f s2 z => ?_)
  · obtain ⟨G, Y, w, hG, hY⟩ := (gives_list (K := X.K) (.inl e1) hq rs.less).ex
    refine for_it (D := { Dn with nx := fun σ' H' => ∃ k, C ds.length k ∧ AD (q :: B) sl (fun H => ML (q :: B) q ds H ∧ mm ds.length k H) (u ds.length k) σ' H' }) (g := gName j) (tb := fun Dn σ H => ∃ H1, TB H1 Dn σ H) w (fun i σ2 H2 => ∃ k, C i k ∧ AD (q :: B) sl (fun H' => ML (q :: B) q ds H' ∧ mm i k H' ∧ Keep B H H') (u i k) σ2 H2) ⟨k0, h0, D, E, sls, ⟨vs, e1, rs⟩, hm0, fun b o _ e => e⟩ (fun i σ2 H2 hi h => ?_) ?_ ?_
    · obtain ⟨k, _, _, _, _, _, _, kk⟩ := h
      exact hG H2 kk
    · rintro i x σ2 H2 H3 hi ⟨k, ck, D2, E2, sl2, ml2, m2, kk⟩ y
      have hd : ds[i]? = some ds[i] := List.getElem?_eq_getElem hi
      have fl : flatD ds[i] = true := List.all_eq_true.mp hfl _ (List.getElem_mem hi)
      obtain ⟨s3, rx⟩ := hY i _ H2 x H3 B hd kk y (fun b hb => D2 b (List.mem_cons_of_mem _ hb)) (fun b hb => hb) (fun b hb => .inl hb)
      have gd : GD (gName j) (u i k) ds[i] (v i k) [j] := by
        rw [hg i k _ hd ck]
        exact gd_name
      refine gd (q :: B) H3 x σ2 _ (D2.same s3) (E2.same s3) (flat_up rx fl) fun σ3 E3 hσ _ => ?_
      obtain ⟨us, e3, r3⟩ := ml2
      refine ⟨H, (i, k), ⟨hi, ck⟩, ⟨D2.same s3, E3, fun q hq => ?_, ⟨us, s3 _ _ e3, r3.same s3⟩, (hm i k).same s3 m2, fun b o n e => s3 b o (kk b o n e)⟩, fun σ' H' n => n, fun v H' q => k2 v H' q⟩
      have z := List.all_eq_true.mp hsl q hq
      rw [hσ q.1 (fun w => by rw [Bool.not_eq_true'] at z; rw [List.contains_iff_mem.mpr w] at z; cases z)]
      exact sl2 q hq
    · rintro σ2 H2 ⟨k, ck, D2, E2, sl2, ml2, m2, kk⟩
      exact ⟨k, ck, D2, E2, sl2, ml2, m2⟩
  · cases f with
    | next =>
      obtain ⟨σ', H', I', kk, ck, a⟩ := z
      exact (hr kk ck).run pins s2 σ' H' Dn I' ⟨a, k, k2⟩
    | ret v => exact z
    | brk => exact z
    | cont => exact z
end
end Sv
/-! part Y3 -/
set_option Elab.async false
set_option linter.all false
set_option maxRecDepth 100000
set_option maxHeartbeats 4000000
namespace Sv
open PySem PySem.Spec PyProof.Rows L2
/-! ### readings beside what is written -/
def PM (X : Cx) (B : List Addr) (sl : List (Nat × Addr)) (m : Hp → Prop) (r : Rho) (e : Expr) (P : PyData → Prop) : Prop :=
  PE X e fun σ H Q => AD B sl m r σ H ∧ ∀ v H' d, Same H H' → P d → Rp B H' v d → Q v H'
def PMA (X : Cx) (B : List Addr) (sl : List (Nat × Addr)) (m : Hp → Prop) (r : Rho) (es : List Expr) (P : List PyData → Prop) : Prop :=
  PA X es fun σ H Q => AD B sl m r σ H ∧ ∀ vs H' ds, Same H H' → P ds → Rps B H' vs ds → Q vs H'
section
variable {X : Cx} {r : Rho} {d d1 d2 : PyData} {e c a o : Expr} {es : List Expr} {ds : List PyData} {pos : Pos} {p : Bool} {B : List Addr} {sl : List (Nat × Addr)} {m : Hp → Prop} {A N M : As} {R : V → Hp → Prop} {rest : List Stmt} {q : Addr} {P P1 : PyData → Prop} {Q : List PyData → Prop}
theorem pm_D (h : PE X e (tD r d)) : PM X B sl m r e (fun x => x = d) := h.wkS fun σ H Q ⟨a, k⟩ => ⟨B, a.1, a.2.1, fun v H' s rv => k v H' d s rfl rv⟩
theorem pma_nil : PMA X B sl m r [] (fun ds => ds = []) := pa_nil.wkS fun σ H Q ⟨a, k⟩ => k [] H [] (Same.refl H) rfl .nil
theorem pma_cons (hm : Kp [] m) (he : PM X B sl m r e P1) (hr : PMA X B sl m r es Q) (hs : starEach (e :: es) X.env = (false, eval e X.env) :: starEach es X.env := by rfl) : PMA X B sl m r (e :: es) (fun ds => ∃ d ds', ds = d :: ds' ∧ P1 d ∧ Q ds') :=
  (pa_cons he hr hs).wkS fun σ H QQ ⟨a, kk⟩ => ⟨a, fun v H1 d s1 p1 rv => ⟨a.same s1 hm, fun vs H2 ds' s2 p2 rs => kk (v :: vs) H2 (d :: ds') (s1.trans s2) ⟨d, ds', rfl, p1, p2⟩ (.cons (rv.same s2) rs)⟩⟩
theorem pm_tup {kt : Nat} (hm : Kp [] m) (h : PMA X B sl m r es Q) (hz : ∀ ds, Q ds → ds.length ≤ sizeLine) : PM X B sl m r (.Tuple es kt pos) (fun d => ∃ ds, Q ds ∧ d = .tuple ds) := (pe_tup h).wkS fun σ H QQ ⟨a, kk⟩ =>
  ⟨a, fun vs H1 ds s1 p1 rs => ⟨by rw [rs.length]; exact hz ds p1, fun q hq => kk _ _ _ (s1.trans (same_new hq)) ⟨ds, p1, rfl⟩ (Rp.tup_new hq (a.same s1 hm).1 rs)⟩⟩
theorem z_retM (hm : Kp [] m) (he : PM X B sl m r e P) (h : ∀ v H' d, P d → m H' → Rp B H' v d → R v H') : PSs X (.Return (some e) pos :: rest) (tZ (AD B sl m r) N R) :=
  z_ret (R1 := fun σ v H' => ∃ d, P d ∧ m H' ∧ Rp B H' v d) (he.wkS fun σ H QQ ⟨a, kk⟩ => ⟨a, fun v H' d s pd rv => kk v H' ⟨d, pd, (a.same s hm).2.2.2, rv⟩⟩) fun σ v H' ⟨d, pd, mm, rv⟩ => h v H' d pd mm rv
/-- a comprehension whose elements are read beside what is written; the items are told by Ci -/
def teM (B : List Addr) (sl : List (Nat × Addr)) (u : PyData → Rho) (Ci : PyData → Prop) (m : Hp → Prop) (P : PyData → PyData → Prop) : TE := fun σ H Q => ∃ a : PyData × Addr × List V, (Ci a.1 ∧ Kp [] (fun H => m H ∧ H a.2.1 = some (.lst a.2.2))) ∧ (AD (a.2.1 :: B) sl (fun H => m H ∧ H a.2.1 = some (.lst a.2.2)) (u a.1) σ H ∧ ∀ v H' d, Same H H' → P a.1 d → Rp (a.2.1 :: B) H' v d → Q v H')
theorem kp0_lst {q : Addr} {vs : List V} : Kp [] (fun H => H q = some (.lst vs)) := fun H H' k e => k q _ (by simp) e
theorem pm_lc {elt iter : Expr} {scope : Scope} {N0 : List Str} {sc0 : Scope} {wi : TI} {Pm : PyData → PyData → Prop} {Ci : PyData → Prop} (i : Nat) {x : Str} {px : Pos} (hm : Kp [] m) (hc : X.calm = true) (hN : X.N.Nodup) (ok : blkC N0 sc0 scope [(x, i)] = true) (hi : PI X (.Name x px) iter wi) (hsl : sl.all (fun q => ![i].contains q.1) = true)
    (hwi : ∀ σ H R, AD B sl m r σ H → (∀ J H1 ds, Same H H1 → ds.length < sizeLine → (∀ d ∈ ds, Ci d) → Gives B H1 J ds → R J H1) → wi σ H R)
    (he : ∀ d, Ci d → ∀ q m', Kp [] m' → (∀ H, m' H → m H) → ∀ (s : Shared) (H : Hp) (C : Addr) (cl : List (Str × Addr)) (fp : List Addr), PM (X.blk s H scope (compEnvC scope cl C X.env) fp) (q :: B) sl m' ((wipeD r [i]).set i (some d)) elt (Pm d))
    (e1 : X.N = N0 := by rfl) (e2 : X.env.scope = sc0 := by rfl) (hx : scope.names.lookup x = some .local := by rfl) (hxi : N0[i]? = some x := by rfl) (hs : ∀ x, foldedSetIterable iter X.env x = pure x := by intro _; rfl) :
    PM X B sl m r (.ListComp elt [⟨.Name x px, iter, [], 0⟩] scope pos) (fun d => ∃ es, d = .list es) := by
  refine (pe_lc (own := [(x, i)]) (g := gName i) (te := teM B sl (fun d => (wipeD r [i]).set i (some d)) Ci m Pm) hc hN hi (by rw [e1, e2]; exact blkOk_by ok) (fun _ _ _ _ _ => pg_name (i := i) hN (by show X.N[i]? = some x; rw [e1]; exact hxi) (Or.inl (loc_blk hx)) (.inr (loc_blk hx))) (fun s H C cl fp => pts_nil)
    (fun s H C cl fp => ⟨fun pins s' σ H' Q I ⟨a, ⟨h1, h2⟩, q⟩ => (he a.1 h1 a.2.1 _ h2 (fun H z => z.1) s H C cl fp).run pins s' σ H' Q I q⟩) hs).wkS fun σ H Q ⟨a, kk⟩ => ?_
  obtain ⟨D, E, sls, hm0⟩ := a
  refine hwi σ H _ ⟨D, E, sls, hm0⟩ fun J H1 ds s1 hz hC gv L hL => ?_
  obtain ⟨G, Y, w, hG, hY⟩ := gv.ex
  have D1 := D.same s1
  have nL : L ∉ B := D1.out hL
  have hL0 : H L = none := by
    cases q : H L with
    | none => rfl
    | some o => rw [s1 L o q] at hL; cases hL
  refine lc_it (g := gName i) (tt := tYes) (te := teM B sl (fun d => (wipeD r [i]).set i (some d)) Ci m Pm) (vs := [i]) (σ := σ) (Qd := fun H => Q (.ref L) H) w
    (fun i H2 => ∃ acc es, H2 L = some (.lst acc) ∧ Same H1 H2 ∧ Dom B H2 ∧ Rps (L :: B) H2 acc es ∧ es.length = i) ⟨[], [], upd_same, same_new hL, D1.same (same_new hL), .nil, rfl⟩ (fun i H2 hi h => ?_) ?_ ?_
  · obtain ⟨acc, es, h1, h2, _⟩ := h
    exact hG H2 (Keep.of h2)
  · intro i' x H2 H3 hi h y
    obtain ⟨acc, es, h1, h2, h3, h4, h5⟩ := h
    have hd : ds[i']? = some ds[i'] := List.getElem?_eq_getElem hi
    have hmm : ds[i'] ∈ ds := List.getElem_mem hi
    have D2 : Dom (L :: B) H2 := h3.cons h1
    obtain ⟨s3, rx⟩ := hY i' _ H2 x H3 (L :: B) hd (Keep.of h2) y D2 (fun b hb => List.mem_cons_of_mem _ hb) (fun b hb => by
      rcases List.mem_cons.mp hb with e | e
      · exact .inr (e ▸ hL)
      · exact .inl e)
    have s03 : Same H H3 := s1.trans (h2.trans s3)
    refine gd_name (L :: B) H3 x _ _ (D2.same s3) (((E.new hL0).same s03).wipe [i]) rx fun σ2 E4 hσ hσl => ?_
    have hwp : L2.wipe σ2 [i] = L2.wipe σ [i] := wipe_agree (by rw [hσl, wipe_length]) hσ (fun j hj => hj)
    refine ⟨hwp, ?_⟩
    have sl2 : ∀ q ∈ sl, σ2[q.1]? = some (some (.ref q.2)) := fun q hq => by
      have nv : q.1 ∉ [i] := fun hv => by
        have zz := List.all_eq_true.mp hsl q hq
        rw [Bool.not_eq_true'] at zz
        rw [List.contains_iff_mem.mpr hv] at zz
        cases zz
      have z1 : (L2.wipe σ2 [i])[q.1]? = σ2[q.1]? := wipe_out nv
      have z2 : (L2.wipe σ [i])[q.1]? = σ[q.1]? := wipe_out nv
      rw [← z1, hwp, z2]
      exact sls q hq
    unfold tYes
    dsimp only
    rw [if_pos rfl]
    refine ⟨(ds[i'], L, acc), ⟨hC _ hmm, hm.and kp0_lst⟩, ⟨D2.same s3, E4, sl2, hm.same s03 hm0, s3 _ _ h1⟩, fun v H5 d s5 pd rv => ?_⟩
    have hl5 := s5 _ _ (s3 _ _ h1)
    have kk2 : Keep (L :: B) H5 (upd H5 L (.lst (acc ++ [v]))) := fun a o ha e => by
      rw [upd_ne (fun z => ha (by simp [z]))]
      exact e
    have s25 : Same H2 H5 := s3.trans s5
    refine ⟨acc, hl5, ?_, acc ++ [v], es ++ [d], upd_same, fun a o e => ?_, Dom.upd (h3.same s25), ((h4.same s25).append (.cons rv .nil)).keep kk2, by rw [List.length_append, h5]; rfl⟩
    · have l1 := h4.length
      omega
    · rw [upd_ne (ne_of_none e hL)]
      exact s25 a o (h2 a o e)
  · rintro H2 ⟨acc, es, h1, h2, h3, h4, h5⟩
    exact kk _ H2 _ (s1.trans h2) ⟨es, rfl⟩ (.lst h1 nL h4.less)
end
end Sv
/-! part Y4 -/
set_option Elab.async false
set_option linter.all false
set_option maxRecDepth 100000
set_option maxHeartbeats 4000000
namespace Sv
open PySem PySem.Spec PyProof.Rows L2
/-- a promise by data where the answer is told by a relation -/
def spE (Pre : List PyData → Prop) (F : List PyData → PyData → Prop) : Sp := fun vs H Q _ => ∃ (B : List Addr) (ds : List PyData), Dom B H ∧ Rps B H vs ds ∧ Pre ds ∧ ∀ v H' d, Same H H' → F ds d → Rp B H' v d → Q v H'
/-- a dict of ints by ints that is written -/
def MD (p : Addr) (os : List (Int × Int)) (H : Hp) : Prop := H p = some (.dK (os.map fun a => ((.inl a.1 : Key), V.int a.2)))
theorem Kp.md {F : List Addr} {p : Addr} {os : List (Int × Int)} (h : p ∉ F) : Kp F (MD p os) := fun H H' s e => s p _ h e
section
variable {P : Program} {w : World} {K : PySem.W.Frag} {mg : Str → Option Value} {base : Heap}
theorem fn_okE {x : Str} {st : Stmt} {f : Addr} {fd : FuncData} {Nm ps : List Str} {k : Nat} {Pre : List PyData → Prop} {F : List PyData → PyData → Prop} (hF : FnP K x st f fd) (S : FnScope Nm ps (defScope st)) (len : ∀ ds, Pre ds → ds.length = ps.length)
    (body : ∀ (cdv : Value) (A : Around) (outer : List Env) (s : Shared) (H : Hp) (E : XK), Room k (A.deeper (envOfC x (defScope st) s.heap.objs.size f cdv)) → ∀ ds, Pre ds → ∀ B H0,
      PSs (cxOf CX0 P w K mg base Nm x (defScope st) f cdv A outer s H E).nox (defBody st) (tZ (AD B [] (Keep [] H0) (rho0 Nm ds)) (fun _ _ => False) (fun v H' => ∃ d, F ds d ∧ Keep [] H0 H' ∧ Rp B H' v d))) : FnOk P w K mg base CX0 (k + 1) f fd ps (spE Pre F) := by
  refine hF.ok S (fun vs H Q E h => ?_) (fun cdv A outer s H vs Q E hr h => ?_)
  · obtain ⟨B, ds, D, rs, hf, _⟩ := h
    exact rs.length.trans (len ds hf)
  · obtain ⟨B, ds, D, rs, hf, kk⟩ := h
    refine ⟨_, PSs.nox (body cdv A outer s H E hr ds hf B H), ⟨D, ?_, (fun q hq => by cases hq), fun b o _ e => e⟩, fun σ' H' e => e.elim, fun v H' ⟨d, q1, q2, q3⟩ => kk v H' d (fun b o e => q2 b o (by simp) e) q1 q3⟩
    have e := rs.length
    unfold L2.start rho0
    rw [e]
    exact er_start _ rs
end
section
variable {X : Cx} {r : Rho} {d d1 d2 : PyData} {e c a o : Expr} {es : List Expr} {ds : List PyData} {pos : Pos} {p : Bool} {B : List Addr} {sl : List (Nat × Addr)} {m : Hp → Prop} {A N M : As} {R : V → Hp → Prop} {rest : List Stmt}
/-- x, y = [], {} -/
theorem z_parLD (i j : Nat) {x y : Str} {px py pt pt2 pl pd : Pos} {kt k2 : Nat} (G : Addr → Prop) (hG : ∀ H q, Dom B H → m H → H q = none → G q) (hm : Kp [] m) (hc : X.calm = true) (hr : ∀ q p, G q → G p → q ∉ B → p ∉ B → q ≠ p → PSs X rest (tZ (AD (q :: p :: B) ((j, p) :: (i, q) :: sl) (fun H => ML (q :: p :: B) q [] H ∧ MD p [] H ∧ m H) ((r.set i none).set j none)) N R)) (hil : i < r.length) (hjl : j < r.length) (hN : X.N.Nodup) (hsl : sl.all (fun q => !decide (q.1 = i)) = true := by rfl) (hsl2 : sl.all (fun q => !decide (q.1 = j)) = true := by rfl) (hi : X.N[i]? = some x := by rfl) (hj : X.N[j]? = some y := by rfl) (hij : i ≠ j := by decide)
    (hw : swappedStores [.Tuple [.Name x px, .Name y py] kt pt] (.Tuple [.List [] pl, .Dict [] [] pd] k2 pt2) X.env = pure none := by rfl)
    (hs : swapsWithSole [.Tuple [.Name x px, .Name y py] kt pt] (.Tuple [.List [] pl, .Dict [] [] pd] k2 pt2) pos.line X.env = pure false := by rfl) (hst : starEach [.List [] pl, .Dict [] [] pd] X.env = (false, eval (.List [] pl) X.env) :: starEach [.Dict [] [] pd] X.env := by rfl) (hst2 : starEach [.Dict [] [] pd] X.env = (false, eval (.Dict [] [] pd) X.env) :: starEach [] X.env := by rfl)
    (hx : Loc X.env.scope x := by first | exact Or.inl rfl | exact Or.inr rfl) (hy : Loc X.env.scope y := by first | exact Or.inl rfl | exact Or.inr rfl) (hfx : X.fn x = true ∨ X.env.scope.names.lookup x = some .local := by first | exact .inl rfl | exact .inr rfl) (hfy : X.fn y = true ∨ X.env.scope.names.lookup y = some .local := by first | exact .inl rfl | exact .inr rfl) :
    PSs X (.Assign [.Tuple [.Name x px, .Name y py] kt pt] (.Tuple [.List [] pl, .Dict [] [] pd] k2 pt2) pos :: rest) (tZ (AD B sl m r) N R) := by
  have hrr : PSs X rest (tZ (fun σ H => ∃ a : Addr × Addr, (G a.1 ∧ G a.2 ∧ a.1 ∉ B ∧ a.2 ∉ B ∧ a.1 ≠ a.2) ∧ AD (a.1 :: a.2 :: B) ((j, a.2) :: (i, a.1) :: sl) (fun H => ML (a.1 :: a.2 :: B) a.1 [] H ∧ MD a.2 [] H ∧ m H) ((r.set i none).set j none) σ H) N R) := z_ex fun a h => hr a.1 a.2 h.1 h.2.1 h.2.2.1 h.2.2.2.1 h.2.2.2.2
  refine (pss_cons (ps_asg (pe_tup (pa_cons (pe_lst pa_nil) (pa_cons pe_dnewK pa_nil hst2) hst)) (pg_tup hc (pgs_cons (pg_name (i := i) hN hi hx hfx) (pgs_cons (pg_name (i := j) hN hj hy hfy) pgs_nil)) rfl rfl) hs hw) hrr).wkS fun Dn σ H ⟨⟨D, E, sls, hm0⟩, k, k2⟩ => ?_
  refine ⟨Nat.zero_le _, fun q hq p hp => ⟨by show 2 ≤ sizeLine; rw [sizeLine_eq]; decide, fun t ht => ?_⟩⟩
  have s1 := same_new (o := .lst []) hq
  have s2 := same_new (o := .dK []) hp
  have s3 := same_new (o := .tup [V.ref q, .ref p]) ht
  have nqp : q ≠ p := fun e => by rw [e, upd_same] at hp; cases hp
  have hpH : H p = none := by
    cases e : H p with
    | none => rfl
    | some o => rw [s1 p o e] at hp; cases hp
  refine ⟨t, _, rfl, .inl (.inl upd_same), rfl, .ref q, _, rfl, .ref p, _, rfl, rfl, ⟨(q, p), ⟨hG H q D hm0 hq, hG H p D hm0 hpH, D.out hq, D.out hpH, nqp⟩, ?_⟩, k, k2⟩
  have hq3 : upd (upd (upd H q (.lst [])) p (.dK [])) t (.tup [V.ref q, .ref p]) q = some (.lst []) := s3 _ _ (s2 _ _ upd_same)
  have hp3 : upd (upd (upd H q (.lst [])) p (.dK [])) t (.tup [V.ref q, .ref p]) p = some (.dK []) := s3 _ _ upd_same
  have s13 := s1.trans (s2.trans s3)
  have li : i < σ.length := by rw [E.length]; exact hil
  have lj : j < σ.length := by rw [E.length]; exact hjl
  refine ⟨((D.same s13).cons hp3).cons hq3, ((((E.new hpH).new hq).same s13).unset i _).unset j _, fun a ha => ?_, ⟨[], hq3, .nil⟩, hp3, hm.same s13 hm0⟩
  rcases List.mem_cons.mp ha with e | ha
  · subst e
    exact List.getElem?_set_self (by simpa using lj)
  · rcases List.mem_cons.mp ha with e | ha
    · subst e
      rw [List.getElem?_set_ne (Ne.symm hij)]
      exact List.getElem?_set_self li
    · have z1 := List.all_eq_true.mp hsl a ha
      have z2 := List.all_eq_true.mp hsl2 a ha
      rw [Bool.not_eq_true', decide_eq_false_iff_not] at z1 z2
      rw [List.getElem?_set_ne (fun e => z2 e.symm), List.getElem?_set_ne (fun e => z1 e.symm)]
      exact sls a ha
/-- d[y] = e, a new key -/
theorem z_dput (i iy : Nat) {x y : Str} {px py pos' : Pos} {k v : Int} {q : Addr} {os : List (Int × Int)} (hi : (i, q) ∈ sl) (hq : q ∈ B) (hm : Kp [q] m) (hu : X.A.units + 1 < cLine) (he : PE X e (tD r (.int v))) (hy : PE X (.Name y py) (tD r (.int k))) (hk : ∀ a ∈ os, a.1 ≠ k) (hz : os.length < 1000)
    (hr : PSs X rest (tZ (AD B sl (fun H => MD q (os ++ [(k, v)]) H ∧ m H) r) N R)) (hN : X.N[i]? = some x := by rfl) (hv : Vis X.env.scope x := by first | exact Or.inl rfl | exact Or.inr (Or.inl rfl) | exact Or.inr (Or.inr rfl)) (hdb : (x == ("__debug__" : Str)) = false := by decide) (hcd : (x == ("__classdict__" : Str)) = false := by decide)
    (hs : swapsWith e (some (.Subscript (.Name x px) (.Name y py) pos')) pos.line X.env = pure false := by rfl) :
    PSs X (.Assign [.Subscript (.Name x px) (.Name y py) pos'] e pos :: rest) (tZ (AD B sl (fun H => MD q os H ∧ m H) r) N R) := by
  refine (pss_cons (ps_dput hu (pe_var hN hv hdb hcd) hy he hs) hr).wkS fun Dn σ H ⟨⟨D, E, sls, md, hm0⟩, kn, k2⟩ => ?_
  refine ⟨B, D, E, fun v1 H1 s1 rv => ?_⟩
  cases rv
  refine ⟨.ref q, sls _ hi, B, D.same s1, E.same s1, fun y1 H2 s2 ry => ?_⟩
  cases ry
  have s12 := s1.trans s2
  have md2 : MD q os H2 := s12 _ _ md
  have eput : putK (os.map fun a => ((.inl a.1 : Key), V.int a.2)) (.inl k) (V.int v) = (os ++ [(k, v)]).map fun a => ((.inl a.1 : Key), V.int a.2) := by
    unfold putK
    rw [if_neg]
    · rw [List.map_append]
      rfl
    · rw [List.any_map, List.any_eq_true]
      rintro ⟨a, ha, e⟩
      have e2 : (Sum.inl a.1 : Key) = Sum.inl k := of_decide_eq_true e
      exact hk a ha (Sum.inl.inj e2)
  have kk : Keep [q] H2 (upd H2 q (.dK ((os ++ [(k, v)]).map fun a => ((.inl a.1 : Key), V.int a.2)))) := fun b o hb e => by
    rw [upd_ne (fun z => hb (by simp [z]))]
    exact e
  have kB : Keep B H2 (upd H2 q (.dK ((os ++ [(k, v)]).map fun a => ((.inl a.1 : Key), V.int a.2)))) := kk.sub fun b hb => by
    rw [List.mem_singleton] at hb
    rw [hb]; exact hq
  refine ⟨q, _, rfl, .inl ⟨_, .inl k, md2, rfl, by rw [List.length_map, sizeLine_eq]; omega, rfl⟩, ?_⟩
  rw [eput]
  exact ⟨⟨(D.same s12).upd, (E.same s12).keep kB, sls, upd_same, hm _ _ kk (hm.same s12 hm0)⟩, kn, k2⟩
theorem pm_imp {P1 P2 : PyData → Prop} (h : PM X B sl m r e P1) (i : ∀ d, P1 d → P2 d) : PM X B sl m r e P2 := h.wkS fun σ H Q ⟨a, k⟩ => ⟨a, fun v H' d s p rv => k v H' d s (i d p) rv⟩
theorem shaped_ints (xs : List Int) : SeqAt.shaped (.list (xs.map .int)) = true := by
  have h1 : PyData.canLayAll0 (xs.map .int) = true := by
    induction xs with
    | nil => rfl
    | cons z ns ih =>
      show (true && PyData.canLayAll0 (ns.map .int)) = true
      rw [ih]
      rfl
  have h2 : PyData.depthAll (xs.map .int) ≤ 1 := by
    clear h1
    induction xs with
    | nil => decide
    | cons z ns ih =>
      simp only [List.map_cons, PyData.depthAll, PyData.depth]
      omega
  show (PyData.canLayAll0 (xs.map .int) && decide _) = true
  rw [h1, decide_eq_true (by simp only [PyData.depth]; omega)]
  rfl
theorem eqv_nil (xs : List Int) : PyData.eqv (.list (xs.map .int)) (.list []) = decide (xs = []) := by
  cases xs <;> simp [PyData.eqv, PyData.eqvAll]
end
section
variable {P : Program} {w : World} {K : PySem.W.Frag} {mg : Str → Option Value} {base : Heap}
abbrev N58 : List Str := ["_law_rows", "_law_rule_so", "_law_there", "_law_taken_so", "_law_odd", "_law_k", "_law_line_here", "_law_beat_so", "_law_bars", "_law_j"]
theorem sc58 : FnScope N58 ["_law_rows", "_law_rule_so", "_law_there"] (defScope (top 58)) := ⟨rfl, rfl, rfl, by decide +kernel, rfl, by decide +kernel, by decide +kernel⟩
/-- the ints below n -/
def belowI (n : Nat) : List Int := (List.range n).map fun i => ((i : Nat) : Int)
theorem belowI_pw (n : Nat) : (belowI n).Pairwise (· < ·) := by
  unfold belowI
  rw [List.pairwise_map]
  exact List.pairwise_lt_range.imp fun {a b} h => by omega
theorem belowI_data (n : Nat) : (belowI n).map PyData.int = rangeD n := by
  unfold belowI rangeD
  rw [List.map_map]
  rfl
def okSes (rs : List Row) : Prop := rs.length ≤ 6 ∧ ∀ r ∈ rs, r.ns.length ≤ 10 ∧ ∀ z ∈ r.ns, PyData.strOk z = true
def P58 : List PyData → Prop := fun ds => ∃ (rs : List Row) (rule : Str), ds = [rowsD rs, .str rule, .list (rangeD rs.length)] ∧ okSes rs ∧ rule ≠ "lock"
def F58 : List PyData → PyData → Prop := fun ds d => ∃ (ts : List Int) (l : PyData), d = .tuple [.tuple (ts.map .int), l] ∧ ts.length ≤ 64
def lineItem (k : Int) : PyData := .tuple [.int 0, .int k]
theorem ok_let {f : Addr} {fd : FuncData} (F : FnP K "_law_let" (top 58) f fd) (T : Tx mg) (G56 : Hs P w K mg base 1 "_law_is_amid" ["_law_rows", "_law_k", "_law_j"] F56) (G57 : Hs P w K mg base 1 "_law_meet" ["_law_rows", "_law_k", "_law_j"] F57) : FnOk P w K mg base CX0 2 f fd ["_law_rows", "_law_rule_so", "_law_there"] (spE P58 F58) := by
  refine fn_okE F sc58 (fun ds ⟨rs, rule, h, _⟩ => by rw [h]; rfl) fun cdv A outer s H E hr ds hp B H0 => ?_
  obtain ⟨rs, rule, rfl, ⟨hl, hns⟩, hrule⟩ := hp
  show PSs _ _ (tZ (AD B [] _ [some (rowsD rs), some (.str rule), some (.list (rangeD rs.length)), none, none, none, none, none, none, none]) _ _)
  have kb : Kp [] (Keep [] H0) := Kp.base fun a ha => by cases ha
  refine z_parLD 3 4 (fun q => H0 q = none) (fun H q D k hq => ?_) kb rfl (fun q p hq0 hp0 hqB hpB hqp => ?_) (Nat.le_of_ble_eq_true rfl) (Nat.le_of_ble_eq_true rfl) sc58.nd
  · cases e : H0 q with
    | none => rfl
    | some o => rw [k q o (by simp) e] at hq; cases hq
  have kp1 : ∀ ts os, Kp [] (fun H => ML (q :: p :: B) q (ts : List PyData) H ∧ MD p os H ∧ Keep [] H0 H) := fun ts os => Kp.and (Kp.ml (by simp) fun a ha => by cases ha) (Kp.and (Kp.md (by simp)) kb)
  refine z_setD (d := .list ((belowI rs.length).map lineItem)) 6 (kp1 _ _) (de_of (de_if (p := false) (d1 := .none) (dt_of (dt_cmp op_eq od_eqS (de_var 1 rfl) de_str (nomark _)) (decide_eq_false hrule)) (fun h => nomatch h) (fun _ => LcOk.pe (lk_N (N0 := N58) (sc0 := defScope (top 58)) 5 (ds := (belowI rs.length).map .int) (f := fun d => .tuple [.int 0, d]) sc58.nd (by decide +kernel) ?_ (di_list (de_sortedI T.sorted (belowI_pw _) ?_ (de_var 2 (by rw [belowI_data]; rfl)))) (fun d hd s H C cl fp => de_tup (da_cons de_int (da_cons (de_var 5 rfl) da_nil)) (sz_ok rfl))) rfl sc58.nd)) (by rw [List.map_map]; rfl)) ?_ sc58.nd
  · rw [List.length_map, sizeLine_eq]
    simp [belowI]
    omega
  · simp [belowI]
    omega
  have bl : (belowI rs.length).length = rs.length := by simp [belowI]
  have bget : ∀ i d, ((belowI rs.length).map lineItem)[i]? = some d → i < rs.length ∧ d = lineItem ((i : Nat) : Int) := fun i d h => by
    rw [List.getElem?_map] at h
    unfold belowI at h
    rw [List.getElem?_map] at h
    cases e : (List.range rs.length)[i]? with
    | none => rw [e] at h; cases h
    | some j =>
      rw [e] at h
      obtain ⟨h1, h2⟩ := List.getElem?_eq_some_iff.mp e
      rw [List.getElem_range] at h2
      rw [List.length_range] at h1
      cases h
      exact ⟨h1, by rw [← h2]⟩
  refine z_for (κ := List Int × List (Int × Int)) (ws := [7, 5]) (fun i a => (a.1.Pairwise (· < ·) ∧ (∀ t ∈ a.1, 0 ≤ t ∧ t < (i : Nat)) ∧ a.1.length ≤ i) ∧ ((a.2.map (·.1)).Pairwise (· < ·) ∧ (∀ t ∈ a.2, 0 ≤ t.1 ∧ t.1 < (i : Nat)) ∧ a.2.length ≤ i)) (fun i a H => ML (q :: p :: B) q (a.1.map .int) H ∧ MD p a.2 H ∧ Keep [] H0 H)
    (fun i a => [some (rowsD rs), some (.str rule), some (.list (rangeD rs.length)), none, none, none, some (.list ((belowI rs.length).map lineItem)), none, none, none]) (fun i a => [some (rowsD rs), some (.str rule), some (.list (rangeD rs.length)), none, none, some (.int (i : Nat)), some (.list ((belowI rs.length).map lineItem)), some (.int 0), none, none]) ([], []) ⟨⟨.nil, (fun t h => by cases h), Nat.le_refl _⟩, .nil, (fun t h => by cases h), Nat.le_refl _⟩ PassesOwn.never rfl (fun i a => kp1 _ _) (di_list (de_var 6 rfl))
    (pg_tup rfl (pgs_cons (pg_name (i := 7) sc58.nd rfl (Or.inl rfl)) (pgs_cons (pg_name (i := 5) sc58.nd rfl (Or.inl rfl)) pgs_nil)) rfl rfl) (fun i a d hd _ => ?_) rfl (fun fr hfr i a hi hC => ?_) (fun a hC => ?_)
  · obtain ⟨_, e⟩ := bget i d hd
    subst e
    exact gd_pair
  · rw [List.length_map, bl] at hi
    obtain ⟨ts, os⟩ := a
    obtain ⟨⟨t1, t2, t3⟩, o1, o2, o3⟩ := hC
    dsimp only at t1 t2 t3 o1 o2 o3
    have hf0 := hfr.less (G := []) fun a ha => by cases ha
    have kin : Kp [] (fun H => MD p os H ∧ Keep [] H0 H ∧ fr H) := Kp.and (Kp.md (by simp)) (kb.and hf0)
    refine z_pre (A := AD (q :: p :: B) [(4, p), (3, q)] (fun H => ML (q :: p :: B) q (ts.map .int) H ∧ (MD p os H ∧ Keep [] H0 H ∧ fr H)) _) ?_ fun σ H h => h.imp fun H z => ⟨z.1.1, z.1.2.1, z.1.2.2, z.2⟩
    refine z_setD 8 (kp_ml kin) (de_lst da_nil (Nat.zero_le _)) ?_ sc58.nd
    let u2 : Nat → List Int → Rho := fun _ js => [some (rowsD rs), some (.str rule), some (.list (rangeD rs.length)), none, none, some (.int (i : Nat)), some (.list ((belowI rs.length).map lineItem)), some (.int 0), some (.list (js.map .int)), none]
    have qpB : q ∉ p :: B := fun z => by
      rcases List.mem_cons.mp z with e | e
      · exact hqp e
      · exact hqB e
    have dget : ∀ jx, jx < ts.length → ∃ t : Int, t ∈ ts ∧ (ts.map PyData.int).getD jx .none = .int t := fun jx h => by
      refine ⟨ts[jx], List.getElem_mem h, ?_⟩
      simp [List.getD, h]
    refine z_forM (q := q) (B := p :: B) (ds := ts.map .int) 3 (j := 9) (fun jx (js : List Int) => js.length ≤ jx) (fun _ _ H => MD p os H ∧ Keep [] H0 H ∧ fr H) u2 (fun jx js => (u2 jx js).set 9 (some ((ts.map PyData.int).getD jx .none))) [] (Nat.le_refl _) PassesOwn.never rfl (fun _ _ => kin) (List.mem_cons_of_mem _ (List.mem_singleton.mpr rfl)) qpB (by rw [List.all_map]; exact List.all_eq_true.mpr fun _ _ => rfl) (pg_name (i := 9) sc58.nd rfl (Or.inl rfl)) (fun jx js d hd _ => by
      have e : (ts.map PyData.int).getD jx .none = d := by simp [List.getD, hd]
      show (u2 jx js).set 9 _ = _
      rw [e]) rfl (fun fr2 hfr2 jx js hjx hjs => ?_) (fun js hjs => ?_)
    · rw [List.length_map] at hjx
      obtain ⟨t, ht, et⟩ := dget jx hjx
      obtain ⟨b0, b1⟩ := t2 t ht
      obtain ⟨tn, rfl⟩ := Int.eq_ofNat_of_zero_le b0
      have htn : tn < i := by omega
      rw [et]
      have kin2 : Kp [] (fun H => ML (q :: p :: B) q (ts.map .int) H ∧ (MD p os H ∧ Keep [] H0 H ∧ fr H) ∧ fr2 H) := kp_ml (kin.and (hfr2.less fun a ha => by cases ha))
      obtain ⟨rj, ej⟩ : ∃ rj, rs[tn]? = some rj := ⟨_, List.getElem?_eq_getElem (show tn < rs.length by omega)⟩
      obtain ⟨rk, ek⟩ : ∃ rk, rs[i]? = some rk := ⟨_, List.getElem?_eq_getElem hi⟩
      have mj := hns rj (List.mem_of_getElem? ej)
      show PSs _ _ (tZ (AD (q :: p :: B) _ _ [some (rowsD rs), some (.str rule), some (.list (rangeD rs.length)), none, none, some (.int (i : Nat)), some (.list ((belowI rs.length).map lineItem)), some (.int 0), some (.list (js.map .int)), some (.int (tn : Nat))]) _ _)
      refine z_ifD (M := AD (q :: p :: B) [(4, p), (3, q)] (fun H => ML (q :: p :: B) q (ts.map .int) H ∧ (MD p os H ∧ Keep [] H0 H ∧ fr H) ∧ fr2 H) [some (rowsD rs), some (.str rule), some (.list (rangeD rs.length)), none, none, some (.int (i : Nat)), some (.list ((belowI rs.length).map lineItem)), some (.int 0), some (.list (js.map .int)), some (.int (tn : Nat))]) kin2 (PW.pt (dw_and (p := false) (q := false) (dt_of (dt_cmp op_eq od_eqS (de_var 1 rfl) de_str (nomark _)) (decide_eq_false hrule)) (fun h => nomatch h))) (fun h => nomatch h) (fun _ => z_nil fun _ _ h => h) ?_
      refine z_ifD (M := fun σ H => ∃ js' : List Int, js'.length ≤ jx + 1 ∧ AD (q :: p :: B) [(4, p), (3, q)] (fun H => ML (q :: p :: B) q (ts.map .int) H ∧ (MD p os H ∧ Keep [] H0 H ∧ fr H) ∧ fr2 H) [some (rowsD rs), some (.str rule), some (.list (rangeD rs.length)), none, none, some (.int (i : Nat)), some (.list ((belowI rs.length).map lineItem)), some (.int 0), some (.list (js'.map .int)), some (.int (tn : Nat))] σ H) kin2 (PW.pt (dw_and (dt_cmp op_in_seq (od_inT (ds := [.str "check", .str "merge"]) rfl rfl) (de_var 1 rfl) (de_tup (da_cons de_str (da_cons de_str da_nil)) (sz_ok rfl)) rfl) (fun _ => dw_and1 (dt_val (de_call G56 ⟨rs, tn, i, rfl, ⟨by omega, hi⟩, rfl⟩ hr (da_cons (de_var 0 rfl) (da_cons (de_var 9 rfl) (da_cons (de_var 5 rfl) da_nil)))))))) (fun _ => ?_) (fun _ => z_nil fun σ H h => ⟨js, by omega, h⟩) (z_nil fun σ H ⟨js', h1, h2⟩ => ⟨js', h1, (h2.drop 9).imp fun H z => z⟩)
      · have shm : SeqAt.shaped (.tuple ((rj.ns.filter fun z => rk.ns.any fun y => PyData.eqv (.str y) (.str z)).map .str)) = true := (shaped_strs fun z hz => mj.2 z (List.mem_filter.mp hz).1).2
        refine z_setD (d := .list ((js ++ (if (decide (rule = "check") || !PyData.eqv (.tuple ((rj.ns.filter fun z => rk.ns.any fun y => PyData.eqv (.str y) (.str z)).map .str)) (.tuple [])) = true then [((tn : Nat) : Int)] else [])).map .int)) 8 kin2 (de_of (de_catL ?_ (de_var 8 rfl) (de_repL (es1 := [.int (tn : Nat)]) (n := if (decide (rule = "check") || !PyData.eqv (.tuple ((rj.ns.filter fun z => rk.ns.any fun y => PyData.eqv (.str y) (.str z)).map .str)) (.tuple [])) = true then 1 else 0) ?_ ?_ ?_ (de_lst (da_cons (de_var 9 rfl) da_nil) (sz_ok rfl)) (de_intB T.int (de_of (de_or (de_cmp op_eq od_eqS (de_var 1 rfl) de_str (nomark _)) (fun _ => de_one (de_cmp (op_neD (room_units hr)) (od_neD shm nil_tup) (de_call G57 ⟨rs, tn, i, rj, rk, rfl, ⟨ej, ek, mj.1⟩, rfl⟩ hr (da_cons (de_var 0 rfl) (da_cons (de_var 9 rfl) (da_cons (de_var 5 rfl) da_nil)))) (de_tup da_nil (Nat.zero_le _)) (nomark _)))) ?_)))) ?_) (z_nil fun σ H h => ⟨js ++ _, ?_, h⟩) sc58.nd
        · rw [List.length_map, sizeLine_eq]
          split <;> simp <;> omega
        · split <;> decide
        · split <;> decide
        · rw [sizeLine_eq]
          split <;> exact Nat.le_of_ble_eq_true rfl
        · cases decide (rule = "check") <;> rfl
        · rw [List.map_append]
          split <;> rfl
        · rw [List.length_append]
          split <;> simp <;> omega
    · rw [List.length_map] at hjs
      refine z_ifD (M := fun σ H => ∃ k' : List Int × List (Int × Int), ((k'.1.Pairwise (· < ·) ∧ (∀ t ∈ k'.1, 0 ≤ t ∧ t < ((i + 1 : Nat) : Int)) ∧ k'.1.length ≤ i + 1) ∧ ((k'.2.map (·.1)).Pairwise (· < ·) ∧ (∀ t ∈ k'.2, 0 ≤ t.1 ∧ t.1 < ((i + 1 : Nat) : Int)) ∧ k'.2.length ≤ i + 1)) ∧ AD (q :: p :: B) [(4, p), (3, q)] (fun H => (ML (q :: p :: B) q (k'.1.map .int) H ∧ MD p k'.2 H ∧ Keep [] H0 H) ∧ fr H) [some (rowsD rs), some (.str rule), some (.list (rangeD rs.length)), none, none, none, some (.list ((belowI rs.length).map lineItem)), none, none, none] σ H) (kp_ml kin) (dt_cmp (op_eqD (room_units hr)) (od_eqD (shaped_ints js) nil_list) (de_var 8 rfl) (de_lst da_nil (Nat.zero_le _)) (nomark _)) (fun _ => ?_) (fun hne => ?_) (z_nil fun σ H h => h)
      · have kq : Kp [q] (fun H => MD p os H ∧ Keep [] H0 H ∧ fr H) := Kp.and (Kp.md (by simp [Ne.symm hqp])) (Kp.and (Kp.base fun a ha => by rw [List.mem_singleton] at ha; exact .inr (by rw [ha]; exact hq0)) (hfr.less fun a ha => by rw [List.mem_singleton] at ha; rw [ha]; exact List.mem_cons_self))
        refine z_app 3 (List.mem_cons_of_mem _ (List.mem_singleton.mpr rfl)) List.mem_cons_self kq (de_var 5 rfl) (by rw [List.length_map, sizeLine_eq]; omega) (z_nil fun σ H h => ⟨(ts ++ [(i : Int)], os), ⟨⟨?_, fun t ht => ?_, by simp; omega⟩, o1, fun t ht => by have := o2 t ht; omega, by show os.length ≤ i + 1; omega⟩, ?_⟩)
        · rw [List.pairwise_append]
          refine ⟨t1, List.pairwise_singleton _ _, fun a ha b hb => ?_⟩
          rw [List.mem_singleton] at hb
          rw [hb]
          exact (t2 a ha).2
        · rcases List.mem_append.mp ht with z | z
          · have := t2 t z
            omega
          · rw [List.mem_singleton] at z
            rw [z]
            omega
        · rw [List.map_append]
          exact (((h.drop 5).drop 7).drop 8).imp fun H z => ⟨⟨z.1, z.2.1, z.2.2.1⟩, z.2.2.2⟩
      · rw [eqv_nil, decide_eq_false_iff_not] at hne
        have kpp : Kp [p] (fun H => ML (q :: p :: B) q (ts.map .int) H ∧ Keep [] H0 H ∧ fr H) := Kp.and (Kp.ml (by simp [hqp]) fun a ha => by rw [List.mem_singleton] at ha; rw [ha]; exact List.mem_cons_of_mem _ List.mem_cons_self) (Kp.and (Kp.base fun a ha => by rw [List.mem_singleton] at ha; exact .inr (by rw [ha]; exact hp0)) (hfr.less fun a ha => by rw [List.mem_singleton] at ha; rw [ha]; exact List.mem_cons_of_mem _ List.mem_cons_self))
        refine z_pre (A := AD (q :: p :: B) [(4, p), (3, q)] (fun H => MD p os H ∧ (ML (q :: p :: B) q (ts.map .int) H ∧ Keep [] H0 H ∧ fr H)) _) ?_ fun σ H h => h.imp fun H z => ⟨z.2.1, z.1, z.2.2⟩
        refine z_dput 4 5 List.mem_cons_self (List.mem_cons_of_mem _ List.mem_cons_self) kpp (Nat.lt_of_le_of_lt (Nat.add_le_add_left (by decide : 1 ≤ 64) _) (room_units hr)) (de_minI rfl T.min hne (de_var 8 rfl)) (de_var 5 rfl) (fun a ha e => by have := (o2 a ha).2; omega) (by omega) (z_nil fun σ H h => ⟨(ts, os ++ [((i : Int), minI js)]), ⟨⟨t1, fun t ht => by have := t2 t ht; omega, by show ts.length ≤ i + 1; omega⟩, ?_, fun t ht => ?_, by simp; omega⟩, ?_⟩)
        · rw [List.map_append, List.pairwise_append]
          refine ⟨o1, List.pairwise_singleton _ _, fun a ha b hb => ?_⟩
          obtain ⟨c, hc, e⟩ := List.mem_map.mp ha
          have hb2 : b ∈ [(i : Int)] := hb
          rw [List.mem_singleton] at hb2
          rw [hb2, ← e]
          exact (o2 c hc).2
        · rcases List.mem_append.mp ht with z | z
          · have := o2 t z
            omega
          · rw [List.mem_singleton] at z
            rw [z]
            show 0 ≤ (i : Int) ∧ (i : Int) < _
            omega
        · exact (((h.drop 5).drop 7).drop 8).imp fun H z => ⟨⟨z.2.1, z.1, z.2.2.1⟩, z.2.2.2⟩
  · rw [List.length_map, bl] at hC
    obtain ⟨ts, os⟩ := a
    obtain ⟨⟨t1, t2, t3⟩, o1, o2, o3⟩ := hC
    dsimp only at t1 t2 t3 o1 o2 o3
    have qpB : q ∉ p :: B := fun z => by
      rcases List.mem_cons.mp z with e | e
      · exact hqp e
      · exact hqB e
    refine z_frz 3 (List.mem_cons_of_mem _ (List.mem_singleton.mpr rfl)) qpB ?_
    have km : Kp [] (fun H => MD p os H ∧ Keep [] H0 H) := Kp.and (Kp.md (by simp)) kb
    refine z_retM (P := fun d => ∃ (ts : List Int) (l : PyData), d = .tuple [.tuple (ts.map .int), l] ∧ ts.length ≤ 64) km (pm_imp (pm_tup km (pma_cons km (pm_D (de_tupL T.tuple (de_sortedI T.sorted t1 (by omega) (de_var 3 rfl)))) (pma_cons km (pm_lc (N0 := N58) (sc0 := defScope (top 58)) (Ci := fun d => ∃ k : Int, d = .int k ∧ ∃ v : Int, (k, v) ∈ os) (Pm := fun _ d => ∃ ds, (∃ d1 ds', ds = d1 :: ds' ∧ True ∧ ∃ d2 ds'', ds' = d2 :: ds'' ∧ True ∧ ds'' = []) ∧ d = .tuple ds) 5 km rfl sc58.nd (by decide +kernel) (pi_list (pe_callB (call_sortedDI rfl) (by rfl) T.sorted (by decide +kernel) (pa_cons (pe_var (i := 4) (by rfl) (Or.inr (Or.inl (by rfl)))) pa_nil (by rfl)))) rfl (fun σ H R a k => ?_) (fun d hd q' m' hm' hmm s H C cl fp => ?_)) pma_nil)) (fun ds hd => ?_)) (fun d hd => ?_)) (fun v H' d pd mm rv => ?_)
    · obtain ⟨D, E, sls, md, hk⟩ := a
      refine ⟨.ref p, sls (4, p) List.mem_cons_self, p, _, os.map (·.1), rfl, .inl md, by rw [List.map_map, List.map_map]; rfl, by rw [List.length_map]; omega, fun ys l hp hs hn => ⟨l, rfl, ⟨_, .inl (.inl upd_same)⟩, ?_⟩⟩
      have e := sorted_same hp hs o1
      refine k _ _ (ys.map .int) (same_new hn) (by rw [e, List.length_map, List.length_map, sizeLine_eq]; omega) (fun d hd => ?_) (gives_list (.inl upd_same) ((D.out hn)) (Rps.int _))
      obtain ⟨y, hy, ey⟩ := List.mem_map.mp hd
      rw [e] at hy
      obtain ⟨c, hc, ec⟩ := List.mem_map.mp hy
      exact ⟨y, ey.symm, c.2, by rw [← ec]; exact hc⟩
    · obtain ⟨kk, rfl, vv, hv⟩ := hd
      refine pm_imp (pm_tup hm' (pma_cons hm' (P1 := fun _ => True) (pm_imp (pm_D (de_var 5 rfl)) fun _ _ => trivial) (pma_cons hm' (P1 := fun _ => True) ?_ pma_nil)) (fun ds hd => ?_)) (fun d hd => hd)
      · refine (pe_dget (Nat.lt_of_le_of_lt (Nat.add_le_add_left (by decide : 1 ≤ 64) _) (room_units hr)) (pe_var (i := 4) (by rfl) (by first | exact Or.inl rfl | exact Or.inr (Or.inl rfl) | exact Or.inr (Or.inr rfl)) (by decide) (by decide)) (de_var (r := [some (rowsD rs), some (.str rule), some (.list (rangeD rs.length)), some (.list (ts.map .int)), none, some (.int kk), some (.list ((belowI rs.length).map lineItem)), none, none, none]) 5 (d := .int kk) rfl) (fun _ _ => rfl)).wkS fun σ H Q ⟨a, k⟩ => ?_
        obtain ⟨D, E, sls, hm1⟩ := a
        refine ⟨.ref p, sls (4, p) List.mem_cons_self, _, D, E, fun y H2 s2 ry => ?_⟩
        cases ry
        have md := (hmm H hm1).1
        obtain ⟨v2, e2⟩ : ∃ v2 : Int, valV (os.map fun a => ((.inl a.1 : Key), V.int a.2)) (.inl kk) = some (.int v2) := by
          cases e : valV (os.map fun a => ((.inl a.1 : Key), V.int a.2)) (.inl kk) with
          | none =>
            exfalso
            unfold valV at e
            rw [Option.map_eq_none_iff, List.find?_eq_none] at e
            exact e (.inl kk, .int vv) (List.mem_map.mpr ⟨(kk, vv), hv, rfl⟩) (decide_eq_true rfl)
          | some x =>
            unfold valV at e
            rw [Option.map_eq_some_iff] at e
            obtain ⟨c, h1, h2⟩ := e
            obtain ⟨b, hb, eb⟩ := List.mem_map.mp (List.mem_of_find?_eq_some h1)
            refine ⟨b.2, ?_⟩
            rw [← h2, ← eb]
        exact ⟨p, .int v2, rfl, .inl ⟨_, .inl kk, .inl (s2 _ _ md), rfl, e2.symm⟩, k _ H2 (.int v2) s2 trivial (.int v2)⟩
      · obtain ⟨d1, ds', rfl, _, d2, ds'', rfl, _, rfl⟩ := hd
        exact sz_ok rfl
    · obtain ⟨d1, ds', rfl, _, d2, ds'', rfl, _, rfl⟩ := hd
      exact sz_ok rfl
    · obtain ⟨ds, ⟨d1, ds', rfl, rfl, d2, ds'', rfl, ⟨es, rfl⟩, rfl⟩, rfl⟩ := hd
      exact ⟨ts, _, rfl, by omega⟩
    · exact ⟨d, pd, mm.2, rv.less⟩
end
end Sv
/-! part Y5 -/
set_option Elab.async false
set_option linter.all false
set_option maxRecDepth 100000
set_option maxHeartbeats 4000000
namespace Sv
open PySem PySem.Spec PyProof.Rows L2
open PySem.Sem (wp)
open AutoSeq1 (wpAny_loadPart')
/-! ### enumerate(a tuple) -/
theorem drawsT {prog : Program} {w : World} {A : Around} (hh : A.handled = none) (it t : Addr) (ne : t ≠ it) (its : Array Value) :
    Draws prog w A it [it, t] its.size (fun i v => its[i]? = some v) (fun i h => h.IsTupleIter it t i ∧ h.IsTuple t its) where
  live := fun _ _ ⟨⟨o, ho, _⟩, _⟩ => ⟨o, ho⟩
  frame := fun _ _ _ ⟨a, c⟩ k => ⟨a.at (fun o e => k it (by simp) o e), let ⟨o, ho, r⟩ := c; ⟨o, k t (by simp) o ho, r⟩⟩
  item := fun i s Q E hi st hQ => RZ.nextOf_tuple_item st.1 st.2 (x := its[i]) (by simp [hi]) fun h' a b => hQ _ h' s.toks (by simp [hi]) ⟨a, st.2.extBut b.extBut ne⟩ b
  done := fun s Q E st hE => RZ.nextOf_tuple_end hh st.1 st.2 (by simp) hE
theorem meetsEnumT (t : Addr) (its : Array Value) (n : Nat) (dct : Option Addr) (sl : Array (Option Value)) :
    Meets (Builtin.«enumerate.__new__» ⟨[.type "enumerate", .ref t], []⟩) (fun _ R s => s.heap.get? t = some { cls := .type "tuple", dict := dct, data := .seq its n, slots := sl } ∧
      R (.ok (.ret (.ref (s.heap.push { cls := .type "tuple_iterator", data := .fields #[.ref t, .int 0 0] }).objs.size)))
        { s with heap := (s.heap.push { cls := .type "tuple_iterator", data := .fields #[.ref t, .int 0 0] }).push { cls := .type "enumerate", data := .fields #[.none, .bool false, .ref s.heap.objs.size, rawInt 0, .none, .none] } }) :=
  .of_wp fun prog w A R s h => by
    obtain ⟨hp, g, d, tk, os⟩ := s; obtain ⟨ht, h⟩ := h
    have sb := sub_enumerate
    have hT : Heap.IsTuple (Shared.heap ⟨hp, g, d, tk, os⟩) t its := ⟨_, ht, rfl, n, rfl⟩
    wp_walk using wpAny_loadPart' ht
    refine wpAny_stack_any fun st => wpAny_pure ?_
    split
    · rename_i c _ _ _ _ _
      cases (c == Value.type "enumerate") <;> (wp_walk using wpAny_loadPart' ht, wpAny_pyIter_tuple hT; exact ⟨_, rfl, h⟩)
    · wp_walk using wpAny_loadPart' ht, wpAny_pyIter_tuple hT
      exact ⟨_, rfl, h⟩
theorem callEnumT {prog : Program} {w : World} {A : Around} {E : Value → Shared → Prop} {s : Shared} {t : Addr} {its : Array Value} {Q : Value → Shared → Prop} (hT : s.heap.IsTuple t its)
    (h : ∀ h', IsEnum h' (s.heap.objs.size + 1) s.heap.objs.size 0 .none → h'.IsTupleIter s.heap.objs.size t 0 → (∀ b o, s.heap.get? b = some o → h'.get? b = some o) → Q (.ref (s.heap.objs.size + 1)) { s with heap := h' }) :
    wpAny (model prog w) A (call (.type "enumerate") [.ref t]) Q E s := by
  obtain ⟨⟨c, dct, dt, sl⟩, ht, hc, n, hd⟩ := hT
  replace hc : c = .type "tuple" := hc
  replace hd : dt = .seq its n := hd
  subst hc hd
  refine callType_new F.called_enumerate (by decide) (F.typeCall_enumerate_1 _) (F.newCall_enumerate_1 _) (fun obj => F.args_object_init_2 obj _) F.entry_enumerate_new (meetsEnumT t its n dct sl) ⟨ht, ?_⟩
  generalize hh : s.heap.push { cls := .type "tuple_iterator", data := .fields #[.ref t, .int 0 0] } = h1
  have hz : h1.objs.size = s.heap.objs.size + 1 := by rw [← hh]; exact Heap.size_push ..
  show _ ∧ _
  rw [hz]
  have he : IsEnum (h1.push { cls := .type "enumerate", data := .fields #[.none, .bool false, .ref s.heap.objs.size, rawInt 0, .none, .none] }) (s.heap.objs.size + 1) s.heap.objs.size 0 .none := by
    rw [← hz]
    exact Heap.get?_push_size h1 rfl
  refine ⟨⟨_, he, rfl⟩, h _ he ⟨_, Heap.get?_push_of_some _ (by rw [← hh]; exact Heap.get?_push_size _ rfl), rfl, rfl⟩ fun b o x => Heap.get?_push_of_some _ (by rw [← hh]; exact Heap.get?_push_of_some _ x)⟩
def IteT (K : PySem.W.Frag) (a : Addr) : It :=
  ⟨fun i H => ∃ (xs : List V) (x : V), SqT K H a xs ∧ xs[i]? = some x, fun i H v H' => ∃ T x, v = .ref T ∧ H T = none ∧ H' = upd H T (.tup [.int (i : Nat), x]) ∧ ∀ xs, SqT K H a xs → xs[i]? = some x, fun i H => ∃ xs : List V, SqT K H a xs ∧ xs.length ≤ i⟩
theorem turnT {P : Program} {w : World} {K : PySem.W.Frag} {elts : List Expr} {kk : Nat} {tpos : Pos} (a e it : Addr) :
    Turn P w K (.Tuple elts kk tpos) (IteT K a) [e, it] e (fun i h => (∃ old, IsEnum h e it ((i : Nat) : Int) old) ∧ h.IsTupleIter it a i ∧ (e ≠ it ∧ a ≠ it ∧ e ≠ a)) where
  mem := by simp
  obj := fun i h st b hb => by
    obtain ⟨⟨old, he⟩, ⟨o, ho, hc, hd⟩, _⟩ := st
    rcases (by simpa using hb : b = e ∨ b = it) with z | z
    · subst z
      exact ⟨_, he, fun v q => nomatch q⟩
    · subst z
      exact ⟨o, ho, fun v q => by rw [hd] at q; cases q⟩
  keep := fun i h h' ⟨⟨old, he⟩, hi, ne⟩ k => ⟨⟨old, k e (by simp) _ he⟩, hi.at fun o q => k it (by simp) o q, ne⟩
  item := by
    intro X hP hw hK hc i pins s σ H E I hf st hg
    subst hP hw hK
    obtain ⟨⟨old, he⟩, hit, ne, ne2, ne3⟩ := st
    obtain ⟨xs, x, hq, hx⟩ := hg
    obtain ⟨its, rv, p, hz⟩ := I.tuple hq
    obtain ⟨u, hu, ru⟩ := rv.get hx
    have hel : e < s.heap.objs.size := Heap.lt_size he
    have hil : it < s.heap.objs.size := by obtain ⟨_, q, _⟩ := hit; exact Heap.lt_size q
    have hul : i < its.length := by
      obtain ⟨q, _⟩ := List.getElem?_eq_some_iff.mp hu
      exact q
    refine wpAny_pyNext_enum_itemD (drawsT (prog := X.prog) (w := X.w) (A := X.A.in1) (I.ok.hd hc) it a ne2 its.toArray) he ⟨hit, p⟩ (by simpa using hul) ne (by simp [ne, ne3]) fun y h' tk hy ho hst' hT hsz hk => ?_
    have hyu : y = u := by
      have e1 : its[i]? = some y := by simpa using hy
      rw [hu] at e1
      exact (Option.some.inj e1).symm
    subst hyu
    refine ⟨_, rfl, wpAny_letOwnedTupleGo_enum (s := { s with heap := h', toks := tk + 1 }) ho fun h'' he' sb => ?_⟩
    have hT2 : h''.get? s.heap.objs.size = some { cls := .type "tuple", data := .seq #[.int i tk, y] } := (sb.2 _ (Nat.ne_of_gt hel)).trans hT
    have new : ObjOk X.prog X.w (upd H s.heap.objs.size (.tup [.int (i : Nat), x])) h'' s.heap.objs.size (.tup [.int (i : Nat), x]) :=
      ⟨by show 2 ≤ sizeLine; decide, [.int i tk, y], .cons ⟨_, rfl⟩ (.cons ru .nil), ⟨_, hT2, rfl, _, rfl⟩⟩
    have I1 : Inv X pins σ (upd H s.heap.objs.size (.tup [.int (i : Nat), x])) { s with heap := h'', toks := tk + 1 } :=
      I.turnedNew (ch := [e, it]) (fun b ob hb q => (sb.2 b (fun z => hb (by simp [z]))).trans (hk b ob (fun z => hb (by simp [z])) (fun z => hb (by simp [z])) q)) hf (Nat.le_refl _) new
    refine ⟨.ref s.heap.objs.size, _, I1, rfl, ⟨_, x, rfl, I.hok.fresh (Nat.le_refl _), rfl, fun ys hy2 => by rw [I.tuple_inj hy2 hq]; exact hx⟩, ⟨⟨y, ?_⟩, hst'.1.at fun o q => (sb.2 it (Ne.symm ne)).trans q, ne, ne2, ne3⟩, fun b hb => ?_⟩
    · rw [show ((i + 1 : Nat) : Int) = (i : Int) + 1 by omega]
      exact he'
    · have hb' : b < s.heap.objs.size := by
        rcases (by simpa using hb : b = e ∨ b = it) with z | z
        · rw [z]; exact hel
        · rw [z]; exact hil
      rw [upd_ne (Nat.ne_of_lt hb')]
      exact (hf b hb).1
  done := by
    intro X hP hw hK hc i pins s σ H E I hf st hg
    subst hP hw hK
    obtain ⟨⟨old, he⟩, hit, ne, ne2, ne3⟩ := st
    obtain ⟨xs, hq, hx⟩ := hg
    obtain ⟨its, rv, p, hz⟩ := I.tuple hq
    obtain ⟨f0, f1, f2, f3, f4, f5⟩ := hf it (by simp)
    have hl := rv.length
    have hT : s.TypeIs (.ref e) "enumerate" := ⟨_, he, rfl⟩
    unfold pyNext
    refine wpAny_bind (wpAny_attempt (wpAny_callSpecial?_slot (name := Str.ofString "__next__") hT F.slot_enumerate_next
      (wpAny_call_entry F.slot_enumerate_next hT F.entry_enumerate_next ?_ (F.args_enumerate_next_1 _))))
    show wpAny _ _ (field (.ref e) 2 >>= _) _ _ _
    refine wpAny_bind (wpAny_field he rfl (x := .ref it) rfl ?_)
    refine wpAny_bind (RZ.nextOf_tuple_end (I.ok.hd hc) hit p (by simp; omega) fun h' x eb hx' => ?_)
    obtain ⟨o, ho, hcl⟩ := hx'
    refine wpAny_bind (wpAny_isInstance (T := "StopIteration") (b := true) ⟨o, ho, hcl⟩ isSubtype_stop ?_)
    exact wpAny_pure ⟨rfl, I.turned (t' := s.toks) (fun b o hb q => eb b o hb q) f0 f1 f3 f4 f5⟩
  self := fun A i s Q E st h => let ⟨⟨_, he⟩, _⟩ := st; wpAny_pyIter_enum he h
def iEnumT (K : PySem.W.Frag) (ta : TA) : TI := fun σ H R => ta σ H fun vs H1 => ∃ a xs, vs = [.ref a] ∧ SqT K H1 a xs ∧ R (IteT K a) H1
theorem pi_enumT {X : Cx} {e : Expr} {ta : TA} {p pos tpos : Pos} {elts : List Expr} {kk : Nat} (hg : Gl X "enumerate") (hm : X.mg "enumerate" = none) (ha : PA X [e] ta) (hs : starEach [e] X.env = [(false, eval e X.env)] := by rfl) :
    PI X (.Tuple elts kk tpos) (.Call (.Name "enumerate" p) [e] [] pos) (iEnumT X.K ta) := by
  refine ⟨fun pins s σ H R I h => ?_⟩
  refine Call_ (ld_blt I hg hm boot_enumerate (PyProof.Rows.callWith_type1 (thn (ha.run pos pins s σ H _ I h) fun us s1 ⟨vs, H1, I1, r1, a, xs, ex, hq, q⟩ => ?_) hs rfl))
  subst ex
  cases r1 with
  | cons r rr =>
    cases rr
    cases r
    obtain ⟨its, rv, p', hz⟩ := I1.tuple hq
    have hal : a < s1.heap.objs.size := by obtain ⟨o, ho, _⟩ := p'; exact Heap.lt_size ho
    refine callEnumT p' fun h' he hit hk => wpAny_pyIter_enum he ?_
    have I2 : Inv X pins σ H1 { s1 with heap := h' } := I1.kept (t' := s1.toks) hk
    refine ⟨s1.heap.objs.size + 1, [s1.heap.objs.size + 1, s1.heap.objs.size], _, _, H1, rfl, I2, turnT a (s1.heap.objs.size + 1) s1.heap.objs.size, ⟨⟨.none, he⟩, hit, Nat.succ_ne_self _, Nat.ne_of_lt hal, Nat.ne_of_gt (Nat.lt_succ_of_lt hal)⟩, fun b hb => ?_, q⟩
    have hle : s1.heap.objs.size ≤ b := by
      rcases (by simpa using hb : b = s1.heap.objs.size + 1 ∨ b = s1.heap.objs.size) with z | z
      · rw [z]; exact Nat.le_add_right _ _
      · rw [z]; exact Nat.le_refl _
    exact I1.fpOk hle (I1.hok.fresh hle)
theorem walk_enumT {K : PySem.W.Frag} {a : Addr} {xs : List V} : Walk (IteT K a) xs.length (fun H => SqT K H a xs) (YPair (fun i => some (.int (i : Nat))) (fun i => xs[i]?)) := by
  refine ⟨fun i _ hi q => ⟨xs, xs[i], q, by simp [hi]⟩, fun _ q => ⟨xs, q, Nat.le_refl _⟩, fun i H v H' _ q ⟨T, x, h1, h2, h3, h4⟩ => ?_⟩
  exact ⟨T, .int (i : Nat), x, h1, h2, h3, rfl, h4 xs q⟩
theorem gives_enumT {K : PySem.W.Frag} {B : List Addr} {H1 : Hp} {a : Addr} {xs : List V} {ds : List PyData} (h : Rd H1 a (.tup xs)) (n : a ∉ B) (s : Rps B H1 xs ds) : Gives B H1 (IteT K a) (enumD 0 ds) :=
  gives_pair (walk_enumT (K := K) (a := a) (xs := xs)) (fun H2 k => .inl (k.rd n h)) ((enumD_length 0 ds).trans s.length.symm) fun i d hd => by
    rw [enumD_get] at hd
    cases e : ds[i]? with
    | none => rw [e] at hd; cases hd
    | some d' =>
      rw [e] at hd
      cases hd
      obtain ⟨v, hv, rv⟩ := s.get e
      exact ⟨.int (i : Nat), v, .int ((0 + i : Nat) : Int), d', rfl, rfl, hv, by rw [Nat.zero_add]; exact .int _, rv⟩
theorem di_enumT {X : Cx} {r : Rho} {ds : List PyData} {e : Expr} {pos pp tpos : Pos} {elts : List Expr} {kk : Nat} (hm : X.mg "enumerate" = none) (h : PE X e (tD r (.tuple ds))) (hg : Gl X "enumerate" := by rfl) (hs : starEach [e] X.env = [(false, eval e X.env)] := by rfl) : PI X (.Tuple elts kk tpos) (.Call (.Name "enumerate" pp) [e] [] pos) (tI r (enumD 0 ds)) :=
  (pi_enumT hg hm (pa_cons h pa_nil hs) hs).wkS fun σ H R ⟨B, D, E, k⟩ => ⟨B, D, E, fun v H1 s rv => by
    obtain ⟨a, xs, e, h, n, rs⟩ := rv.tup_inv
    subst e
    exact ⟨a, xs, rfl, .inl h, k _ H1 s (gives_enumT h n rs)⟩⟩
end Sv
/-! part Y6 -/
set_option Elab.async false
set_option linter.all false
set_option maxRecDepth 100000
set_option maxHeartbeats 4000000
namespace Sv
open PySem PySem.Spec PyProof.Rows L2
section
variable {X : Cx} {r : Rho} {d d1 d2 : PyData} {e c a o : Expr} {es : List Expr} {ds : List PyData} {pos : Pos} {p : Bool} {B : List Addr} {sl : List (Nat × Addr)} {b : Addr} {fr m : Hp → Prop} {A N M : As} {R : V → Hp → Prop} {rest : List Stmt} {k k1 k2 : Nat} {P P1 P2 : PyData → Prop} {Q Q2 : List PyData → Prop}
theorem de_listRange {pp pq pos2 : Pos} {n : Nat} (hc : X.calm = true) (hn : n ≤ 100000) (hl : X.mg "list" = none) (hm : X.mg "range" = none) (h : PE X e (tD r (.int (n : Nat)))) (hgl : Gl X "list" := by rfl) (hg : Gl X "range" := by rfl) (hs : starEach [e] X.env = (false, eval e X.env) :: starEach [] X.env := by rfl)
    (hs2 : starEach [.Call (.Name "range" pq) [e] [] pos2] X.env = (false, eval (.Call (.Name "range" pq) [e] [] pos2) X.env) :: starEach [] X.env := by rfl) : PE X (.Call (.Name "list" pp) [.Call (.Name "range" pq) [e] [] pos2] [] pos) (tD r (.list (rangeD n))) :=
  (pe_listRg hc hgl hl (prg_1 hg hm h hs) hs2).wkS fun σ H Q ⟨B, D, E, k⟩ => ⟨B, D, E, fun v H1 s rv => by
    cases rv
    refine ⟨_, rfl, ⟨by decide, by decide, by omega, by omega, by omega⟩, fun q hq => k _ _ (s.trans (same_new hq)) ?_⟩
    have e1 : rgV 0 (n : Nat) = (belowI n).map V.int := by
      unfold rgV belowI
      rw [show ((n : Int) - 0).toNat = n by omega, List.map_map]
      refine List.map_congr_left fun i _ => ?_
      show V.int (0 + (i : Int)) = V.int (i : Int)
      rw [Int.zero_add]
    rw [e1, ← belowI_data]
    exact Rp.lst_new hq (D.same s) (Rps.int _)⟩
/-- a call that is told by a relation -/
theorem pz_callE {j : Nat} {x : Str} {ps : List Str} {Pre : List PyData → Prop} {F : List PyData → PyData → Prop} {pp : Pos} (G : Has X.prog X.w X.K X.mg X.base CX0 j x ps (spE Pre F)) (hr : Room j X.A) (hf : Kp [] fr) (ha : PA X (e :: es) (tA r ds)) (hp : Pre ds) (hg : Gl X x := by rfl) (hdb : (x == ("__debug__" : Str)) = false := by decide)
    (he : starEach (e :: es) X.env = (false, eval e X.env) :: starEach es X.env := by rfl) (hpl : (backTo pos (starEach es X.env)).any (·.1) = false := by rfl) : PZ X B sl b fr r (.Call (.Name x pp) (e :: es) [] pos) 0 (F ds) := by
  obtain ⟨f, fd, hm, hk, hbd, Fk⟩ := G.ex
  intro n
  refine (pe_call Fk hr hg hm hk hbd .nil pass0 ha hdb he hpl (E := E0)).wkS fun σ H QQ ⟨a, kk⟩ => ?_
  refine ⟨B, a.1, a.2.1, fun vs H1 s1 rs => ?_⟩
  have a1 := a.same s1 (bf_kp hf)
  exact ⟨B, ds, a1.1, by rw [List.append_nil]; exact rs, hp, fun v H2 d s2 hF rv => kk v H2 d (Keep.of (s1.trans s2)) hF (a1.same s2 (bf_kp hf)) rv⟩
/-- x, y = a, [] -/
theorem z_parPL (i l : Nat) {x z : Str} {px pz pt pt2 pl : Pos} {kt kk2 n : Nat} (G : Addr → Prop) (hG : ∀ H q, Dom B H → fr H → H q = none → G q) (hb : b ∈ B) (hf : Kp [] fr) (hc : X.calm = true) (ha : PZ X B sl b fr r a k1 P1) (hr : ∀ q, G q → q ∉ B → ∀ d1, P1 d1 → PSs X rest (tZ (AD (q :: B) ((l, q) :: sl) (fun H => ML (q :: B) q [] H ∧ BF b n fr H) ((r.set i (some d1)).set l none)) N R)) (hil : l < r.length) (hN : X.N.Nodup) (hsl : sl.all (fun q => !decide (q.1 = i)) = true := by rfl) (hsl3 : sl.all (fun q => !decide (q.1 = l)) = true := by rfl) (hi : X.N[i]? = some x := by rfl) (hl : X.N[l]? = some z := by rfl) (hil2 : i ≠ l := by decide)
    (hx : X.env.scope.names.lookup x = some .local := by rfl) (hz : X.env.scope.names.lookup z = some .local := by rfl) (hw : swappedStores [.Tuple [.Name x px, .Name z pz] kt pt] (.Tuple [a, .List [] pl] kk2 pt2) X.env = pure (some [x, z]) := by rfl)
    (hs : swapsWithSole [.Tuple [.Name x px, .Name z pz] kt pt] (.Tuple [a, .List [] pl] kk2 pt2) pos.line X.env = pure false := by rfl)
    (h1 : starEach [a, .List [] pl] X.env = (false, eval a X.env) :: starEach [.List [] pl] X.env := by rfl) (h3 : starEach [.List [] pl] X.env = (false, eval (.List [] pl) X.env) :: starEach [] X.env := by rfl) :
    PSs X (.Assign [.Tuple [.Name x px, .Name z pz] kt pt] (.Tuple [a, .List [] pl] kk2 pt2) pos :: rest) (tZ (AD B sl (BF b (n + k1) fr) r) N R) := by
  have hrr : PSs X rest (tZ (fun σ H => ∃ q : Addr × PyData, ((G q.1 ∧ q.1 ∉ B) ∧ P1 q.2) ∧ AD (q.1 :: B) ((l, q.1) :: sl) (fun H => ML (q.1 :: B) q.1 [] H ∧ BF b n fr H) ((r.set i (some q.2)).set l none) σ H) N R) := z_ex fun q hq => hr q.1 hq.1.1 hq.1.2 q.2 hq.2
  refine (pss_cons (ps_par hc hN hi hl hil2 hx hz (pa_cons (ha n) (pa_cons (pe_lst pa_nil) pa_nil h3) h1) hw hs) hrr).wkS fun Dn σ H ⟨A0, kk, kr⟩ => ?_
  refine ⟨A0, fun v1 H1 d1 q1 p1 a1 rv1 => ⟨Nat.zero_le _, fun q hq => ?_⟩⟩
  have a4 := AD.mk (i := l) (vs := []) (ds := []) (a1.set rv1 hsl) (bf_kp hf) hq .nil hsl3 (by simp; exact hil)
  exact ⟨v1, .ref q, rfl, ⟨(q, d1), ⟨⟨hG H1 q a1.1 a1.2.2.2.2 hq, a1.1.out hq⟩, p1⟩, a4⟩, kk, kr⟩
/-- x.append(e), e may draw -/
theorem z_appP (i : Nat) {q : Addr} {x : Str} {p1 p2 p3 p4 : Pos} {n : Nat} (hi : (i, q) ∈ sl) (hq : q ∈ B) (hb : b ∈ B) (hqb : q ≠ b) (hf : Kp [q] fr) (he : PZ X B sl b (fun H => ML B q ds H ∧ fr H) r e k P) (hz : ds.length < sizeLine) (hr : ∀ d, P d → PSs X rest (tZ (AD B sl (fun H => ML B q (ds ++ [d]) H ∧ BF b n fr H) r) N R)) (hN : X.N[i]? = some x := by rfl) (hv : Vis X.env.scope x := by first | exact Or.inl rfl | exact Or.inr (Or.inl rfl) | exact Or.inr (Or.inr rfl)) (hd : (x == ("__debug__" : Str)) = false := by decide) (hcd : (x == ("__classdict__" : Str)) = false := by decide)
    (hbase : attributeBase (.Name x p1) "append" X.env (eval (.Name x p1) X.env) = eval (.Name x p1) X.env := by rfl) (hst : starEach [e] X.env = (false, eval e X.env) :: starEach [] X.env := by rfl)
    (hfew : ((backTo p3 (starEach [e] X.env)).all (fun x => !x.1) && (backToKw p3 (keywordEach [] X.env)).all (fun x => x.1.isSome) && decide ([e].length + ([] : List Keyword).length + (if ([] : List Keyword).isEmpty then 0 else 1) < 30)) = true := by rfl)
    (hline : (p2.endLine == p3.line) = true := by rfl) (hpl : (backTo p3 (starEach [] X.env)).any (·.1) = false := by rfl) (hsw : swapsWith (.Call (.Attribute (.Name x p1) "append" p2) [e] [] p3) none p4.line X.env = pure false := by rfl) :
    PSs X (.Expr (.Call (.Attribute (.Name x p1) "append" p2) [e] [] p3) p4 :: rest) (tZ (AD B sl (BF b (n + k) (fun H => ML B q ds H ∧ fr H)) r) N R) := by
  have hrr : PSs X rest (tZ (fun σ H => ∃ d, P d ∧ AD B sl (fun H => ML B q (ds ++ [d]) H ∧ BF b n fr H) r σ H) N R) := z_ex hr
  refine (pss_cons (ps_expr (pe_bm F.plainAttrs_list F.slot_list_append F.type_list_append mt_append (pe_var hN hv hd hcd) (pa_cons (he n) pa_nil hst) hbase hfew hline hst hpl) hsw) hrr).wkS fun Dn σ H ⟨a, kn, k2⟩ => ?_
  obtain ⟨vs0, e0, _⟩ := a.2.2.2.2.1
  refine ⟨.ref q, a.2.2.1 _ hi, .inl ⟨rfl, vs0, .inl (.inl e0)⟩, a, fun v H1 d k1' pd a1 rv => ?_⟩
  obtain ⟨D1, E1, sls, bx, ⟨vs, e1, rs⟩, hfr⟩ := a1
  refine ⟨q, vs, v, rfl, rfl, e1, by rw [rs.length]; exact hz, ?_⟩
  have kk : Keep [q] H1 (upd H1 q (.lst (vs ++ [v]))) := fun b o hb e => by
    rw [upd_ne (fun z => hb (by simp [z]))]
    exact e
  have kB : Keep B H1 (upd H1 q (.lst (vs ++ [v]))) := kk.sub fun b hb => by
    rw [List.mem_singleton] at hb
    rw [hb]; exact hq
  exact ⟨⟨d, pd, D1.upd, E1.keep kB, sls, ⟨vs ++ [v], upd_same, (rs.append (Rps.one rv)).keep kB⟩, (Kp.bx (by simp [Ne.symm hqb])) _ _ kk bx, hf _ _ kk hfr⟩, kn, k2⟩
end
end Sv
/-! part Y7 -/
set_option Elab.async false
set_option linter.all false
set_option maxRecDepth 100000
set_option maxHeartbeats 4000000
namespace Sv
open PySem PySem.Spec PyProof.Rows L2
/-! ### _law_log -/
structure LogOk (n : Nat) (rs : List Row) : Prop where
  len : rs.length = n
  row : ∀ r ∈ rs, (0 ≤ r.x ∧ r.x ≤ r.y ∧ r.y < r.u ∧ r.u ≤ 100) ∧ (namesB r.ns = true ∧ r.ns ≠ []) ∧ r.ns.length ≤ 5 ∧ ∀ z ∈ r.ns, PyData.strOk z = true
  asc : rs.Pairwise (fun r s => r.u < s.u)
theorem rowF {r : Row} : rowD false r = .tuple [.int r.x, .int r.u, namesD r.ns] := rfl
theorem rowTr {r : Row} : rowD true r = .tuple [.int r.x, .int r.y, .int r.u, namesD r.ns, ansD r.a] := rfl
theorem flat_ints (ts : List Int) : (ts.map PyData.int).all flatD = true := by
  rw [List.all_map]
  exact List.all_eq_true.mpr fun _ _ => rfl
theorem flat_int (t : Int) : flatD (.int t) = true := rfl
section
variable {P : Program} {w : World} {K : PySem.W.Frag} {mg : Str → Option Value} {base : Heap}
abbrev N60 : List Str := ["_law_box_here", "_law_size_all", "_law_rule_so", "_law_odd", "_law_rows", "_law_let_so", "_law_log_so", "_law_k", "_law_row", "_law_way_so", "_law_low_so", "_law_high_so"]
theorem sc60 : FnScope N60 ["_law_box_here", "_law_size_all", "_law_rule_so", "_law_odd"] (defScope (top 60)) := ⟨rfl, rfl, rfl, by decide +kernel, rfl, by decide +kernel, by decide +kernel⟩
def P60 : List PyData → Prop := fun ds => ∃ (n : Nat) (rule : Str), ds = [.int (n : Nat), .str rule, .bool true] ∧ n ≤ 6 ∧ rule ≠ "lock"
def F60 : List PyData → PyData → Prop := fun ds d => ∃ (n : Nat) (l k : PyData) (rs : List Row), ds = [.int (n : Nat), l, k] ∧ LogOk n rs ∧ d = .tuple (rs.map (rowD true))
theorem pool3 : okPool ["a", "b", "c"] := ⟨⟨by decide, by decide⟩, by decide +kernel⟩
theorem rs_get {rs : List Row} {i : Nat} {d : PyData} (h : (enumD 0 (rs.map (rowD false)))[i]? = some d) : ∃ r, rs[i]? = some r ∧ d = .tuple [.int (i : Nat), rowD false r] := by
  rw [enumD_get, List.getElem?_map] at h
  cases e : rs[i]? with
  | none => rw [e] at h; cases h
  | some r =>
    rw [e] at h
    refine ⟨r, rfl, ?_⟩
    have := Option.some.inj h
    rw [← this, Nat.zero_add]
theorem ok_log {f : Addr} {fd : FuncData} (F : FnP K "_law_log" (top 60) f fd) (T : Tx mg) (G50 : Has P w K mg base CX0 3 "_law_take" ["_law_box_here", "_law_below"] (spB P50 F50 1)) (G52 : Has P w K mg base CX0 3 "_law_of" ["_law_box_here", "_law_some"] (spB P52 F52 1)) (G55 : Has P w K mg base CX0 3 "_law_sessions" ["_law_box_here", "_law_size_all", "_law_pool_so"] (spB P55 F55 50))
    (G58 : Has P w K mg base CX0 3 "_law_let" ["_law_rows", "_law_rule_so", "_law_there"] (spE P58 F58)) (G59 : Has P w K mg base CX0 3 "_law_answer" ["_law_box_here", "_law_is_let", "_law_odd"] (spB P59 F59 2)) : FnOk P w K mg base CX0 4 f fd ["_law_box_here", "_law_size_all", "_law_rule_so", "_law_odd"] (spB P60 F60 90) := by
  refine fn_okB F sc60 (fun ds ⟨n, rule, h, _⟩ => by rw [h]; rfl) fun cdv A outer s H E hr ds hp B b n H0 hb => ?_
  obtain ⟨sz, rule, rfl, hsz, hrule⟩ := hp
  show PSs _ _ (tZ (AD B [(0, b)] _ [none, some (.int (sz : Nat)), some (.str rule), some (.bool true), none, none, none, none, none, none, none, none]) _ _)
  have kb : Kp [b] (Keep [b] H0) := Kp.base fun a ha => .inl ha
  have k0 : Kp [] (Keep [b] H0) := kb.less fun a ha => by cases ha
  refine z_pre (A := AD B [(0, b)] (BF b ((n + 5 * sz) + 50) (Keep [b] H0)) _) ?_ fun σ H h => h.fuel (by omega)
  refine z_setP 4 (pz_imp (k2 := 50) (P2 := fun d => ∃ rs : List Row, SesOk sz rs ∧ d = rowsD rs) (pz_call G55 hr hb (List.mem_singleton.mpr rfl) kb (pza_D (da_cons (de_var 1 rfl) (da_cons (de_lst (da_strs rfl) (sz_ok rfl)) da_nil)) k0) (fun ds hd => ⟨sz, ["a", "b", "c"], hd, hsz, pool3⟩)) (by decide) (fun d ⟨ds, e, n', l, rs, e2, h1, h2⟩ => ?_)) (fun d1 hd1 => ?_) sc60.nd
  · rw [e] at e2
    have e3 := (List.cons.inj e2).1
    have e4 : (sz : Int) = (n' : Int) := PyData.int.inj e3
    have e5 : sz = n' := by omega
    rw [e5]
    exact ⟨rs, h1, h2⟩
  obtain ⟨rs, hS, rfl⟩ := hd1
  have hlen := hS.len
  have okS : okSes rs := ⟨by omega, fun r hr => ⟨by have := (hS.row r hr).2.2.2.1; omega, (hS.row r hr).2.2.2.2⟩⟩
  refine z_parPL 5 6 (fun q => H0 q = none) (n := n + 5 * sz) (k1 := 0) (P1 := fun d => ∃ ts : List Int, d = .tuple (ts.map .int) ∧ ts.length ≤ 64) (fun H q D k hq => ?_) hb k0 rfl (pz_imp (k1 := 0 + 0) (pz_ix hb (P := fun d => ∃ ts : List Int, d = .tuple (ts.map .int) ∧ ts.length ≤ 64) ix_tup (fun d1 d2 p1 p2 => ?_) (pz_callE G58 hr k0 (da_cons (de_var 4 rfl) (da_cons (de_var 2 rfl) (da_cons (de_listRange (n := rs.length) rfl (by omega) T.list T.range (de_of (de_lenT T.len (de_var 4 rfl)) (by rw [List.length_map]))) da_nil))) ⟨rs, rule, rfl, okS, hrule⟩) (pz_D de_int k0) k0) (by decide) (fun d h => h)) (fun q hq0 hqB d1 hd1 => ?_) (Nat.le_of_ble_eq_true rfl) sc60.nd
  · cases e : H0 q with
    | none => rfl
    | some o =>
      by_cases z : q = b
      · subst z
        exact absurd hq (D _ hb)
      · rw [k q o (by simp [z]) e] at hq; cases hq
  · obtain ⟨ts, l, rfl, hts⟩ := p1
    subst p2
    exact ⟨_, ⟨ts, rfl, hts⟩, od_ixT rfl⟩
  obtain ⟨ts, rfl, hts⟩ := hd1
  have nqb : q ≠ b := fun e => hqB (e ▸ hb)
  have hbB : b ∈ q :: B := List.mem_cons_of_mem _ hb
  have hmb : ((0 : Nat), b) ∈ [((6 : Nat), q), (0, b)] := List.mem_cons_of_mem _ (List.mem_singleton.mpr rfl)
  have elen : (enumD 0 (rs.map (rowD false))).length = sz := by rw [enumD_length, List.length_map, hlen]
  refine z_for (κ := List Row) (ws := [7, 8]) (fun i a => LogOk i a ∧ a.map (·.u) = (rs.take i).map (·.u)) (fun i a H => ML (q :: B) q (a.map (rowD true)) H ∧ BF b (n + 5 * (sz - i)) (Keep [b] H0) H)
    (fun i a => [none, some (.int (sz : Nat)), some (.str rule), some (.bool true), some (rowsD rs), some (.tuple (ts.map .int)), none, none, none, none, none, none]) (fun i a => [none, some (.int (sz : Nat)), some (.str rule), some (.bool true), some (rowsD rs), some (.tuple (ts.map .int)), none, some (.int (i : Nat)), (rs[i]?).map (rowD false), none, none, none]) [] ⟨⟨rfl, (fun r h => by cases h), .nil⟩, rfl⟩ PassesOwn.never rfl
    (fun i a => kp_ml (bf_kp k0)) (di_enumT T.enumerate (de_var 4 rfl)) (pg_tup rfl (pgs_cons (pg_name (i := 7) sc60.nd rfl (Or.inl rfl)) (pgs_cons (pg_name (i := 8) sc60.nd rfl (Or.inl rfl)) pgs_nil)) rfl rfl) (fun i a d hd _ => ?_) rfl (fun fr hfr i a hi hC => ?_) (fun a hC => ?_)
  · obtain ⟨r, e1, rfl⟩ := rs_get hd
    rw [e1]
    exact gd_pair
  · rw [elen] at hi
    obtain ⟨hL, hu⟩ := hC
    obtain ⟨r, e1⟩ : ∃ r, rs[i]? = some r := ⟨rs[i], List.getElem?_eq_getElem (by omega)⟩
    have hrm : r ∈ rs := List.mem_of_getElem? e1
    obtain ⟨⟨_, _⟩, ⟨x0, x1, x2⟩, n1, n2, n3⟩ := hS.row r hrm
    rw [e1, Option.map_some, rowF]
    have kq : Kp [b] (fun H => ML (q :: B) q (a.map (rowD true)) H ∧ (Keep [b] H0 H ∧ fr H)) := Kp.and (Kp.ml (by simp [nqb]) fun a ha => by rw [List.mem_singleton] at ha; rw [ha]; exact hbB) (kb.and (hfr.less fun a ha => by rw [List.mem_singleton] at ha; rw [ha]; exact hbB))
    have kq0 := kq.less (G := []) fun a ha => by cases ha
    have nx : n + 5 * (sz - i) = n + 5 * (sz - (i + 1)) + 5 := by omega
    refine z_pre (A := AD (q :: B) [(6, q), (0, b)] (BF b ((n + 5 * (sz - (i + 1)) + 4) + 1) (fun H => ML (q :: B) q (a.map (rowD true)) H ∧ (Keep [b] H0 H ∧ fr H))) _) ?_ fun σ H h => h.imp fun H q => ⟨by have z := q.1.2.1; rw [nx] at z; exact z, q.1.1, q.1.2.2, q.2⟩
    refine z_setP 9 (k := 1) (P := fun d => ∃ j : Int, d = .int j ∧ 0 ≤ j ∧ j < 3) (pz_imp (pz_call G52 hr hbB hmb kq (pza_D (da_cons (de_lst (da_cons de_int (da_cons de_int (da_cons de_int (da_cons de_int da_nil)))) (sz_ok rfl)) da_nil) kq0) (fun ds hd => ⟨_, hd, by show 0 < 4; decide, by show 4 ≤ 1000; decide⟩)) (by decide) (fun d h => ?_)) (fun d3 hd3 => ?_) sc60.nd
    · obtain ⟨ds, rfl, xs, e2, h1⟩ := h
      cases e2
      simp only [List.mem_cons, List.not_mem_nil, or_false] at h1
      rcases h1 with e | e | e | e <;> subst e <;> exact ⟨_, rfl, by decide, by decide⟩
    obtain ⟨way, rfl, hw0, hw1⟩ := hd3
    have pick : ∀ (t : Int) (c : Int), 0 ≤ t → 0 ≤ c → ∃ d, (∃ v : Int, d = .int v ∧ 0 ≤ v) ∧ L2.atI [PyData.int t, .int 0, .int c] way = some d := fun t c h1 h2 => by
      obtain ⟨d, e2, e3⟩ := atI_nat (xs := [PyData.int t, .int 0, .int c]) hw0 hw1
      refine ⟨d, ?_, e2⟩
      simp only [List.mem_cons, List.not_mem_nil, or_false] at e3
      rcases e3 with e | e | e <;> subst e
      · exact ⟨_, rfl, h1⟩
      · exact ⟨_, rfl, Int.le_refl _⟩
      · exact ⟨_, rfl, h2⟩
    refine z_setP 10 (n := n + 5 * (sz - (i + 1)) + 3) (k := 1) (P := fun d => ∃ x : Int, d = .int x ∧ 0 ≤ x ∧ x ≤ r.x) (pz_imp (k1 := 0 + (0 + (1 + 0 + 0 + 0) + 0)) (P1 := fun d => ∃ x : Int, d = .int x ∧ 0 ≤ x ∧ x ≤ r.x) (pz_callB (call_max2 rfl) (fun ds hd => ?_) kq0 T.max (by decide +kernel) (pza_cons hbB (pz_D de_int kq0) (pza_cons hbB (pz_bin (k2 := 1 + 0 + 0 + 0) (P := fun d => ∃ x : Int, d = .int x ∧ x ≤ r.x) hbB op_sub (fun d1 d2 p1 p2 => ?_) (pz_D (de_ixT rfl (de_var 8 rfl) de_int) kq0) (pz_ix (P := fun d => ∃ v : Int, d = .int v ∧ 0 ≤ v) hbB ix_list (fun d1 d2 p1 p2 => ?_) (pz_lst (pza_cons hbB (pz_call G50 hr hbB hmb kq (pza_D (da_cons de_int da_nil) kq0) (fun ds hd => ⟨_, hd, by decide, by decide⟩)) (pza_D (da_cons de_int (da_cons de_int da_nil)) kq0)) (fun ds hd => ?_) kq0) (pz_D (de_var 9 rfl) kq0) kq0) kq0) (pza_D da_nil kq0)))) (by decide) (fun d h => h)) (fun d4 hd4 => ?_) sc60.nd
    · obtain ⟨d1, ds', rfl, e1, d2, ds'', rfl, ⟨x, rfl, hx⟩, e3⟩ := hd
      subst e1
      subst e3
      refine ⟨_, ⟨_, rfl, ?_, ?_⟩, cd_max⟩ <;> split <;> omega
    · subst p1
      obtain ⟨v, rfl, hv⟩ := p2
      exact ⟨_, ⟨_, rfl, by omega⟩, od_sub⟩
    · obtain ⟨ds, ⟨d1, ds', rfl, ⟨ds3, rfl, m3, j3, e3, rfl, hj0, hj1⟩, e4⟩, rfl⟩ := p1
      subst e4
      subst p2
      obtain ⟨d, hd, e5⟩ := pick j3 1 hj0 (by decide)
      exact ⟨d, hd, od_ixL e5⟩
    · obtain ⟨d1, ds', rfl, _, e4⟩ := hd
      subst e4
      exact sz_ok rfl
    obtain ⟨lo, rfl, lo0, lo1⟩ := hd4
    refine z_setP 11 (n := n + 5 * (sz - (i + 1)) + 2) (k := 1) (P := fun d => ∃ x : Int, d = .int x ∧ r.x ≤ x ∧ x < r.u) (pz_imp (k1 := 0 + (0 + (1 + 0 + 0 + 0) + 0)) (P1 := fun d => ∃ x : Int, d = .int x ∧ r.x ≤ x ∧ x < r.u) (pz_callB (call_min2 rfl) (fun ds hd => ?_) kq0 T.min (by decide +kernel) (pza_cons hbB (pz_D (de_sub (de_ixT rfl (de_var 8 rfl) de_int) de_int) kq0) (pza_cons hbB (pz_bin (k2 := 1 + 0 + 0 + 0) (P := fun d => ∃ x : Int, d = .int x ∧ r.x ≤ x) hbB op_add (fun d1 d2 p1 p2 => ?_) (pz_D (de_ixT rfl (de_var 8 rfl) de_int) kq0) (pz_ix (P := fun d => ∃ v : Int, d = .int v ∧ 0 ≤ v) hbB ix_list (fun d1 d2 p1 p2 => ?_) (pz_lst (pza_cons hbB (pz_call G50 hr hbB hmb kq (pza_D (da_cons de_int da_nil) kq0) (fun ds hd => ⟨_, hd, by decide, by decide⟩)) (pza_D (da_cons de_int (da_cons de_int da_nil)) kq0)) (fun ds hd => ?_) kq0) (pz_D (de_var 9 rfl) kq0) kq0) kq0) (pza_D da_nil kq0)))) (by decide) (fun d h => h)) (fun d5 hd5 => ?_) sc60.nd
    · obtain ⟨d1, ds', rfl, e1, d2, ds'', rfl, ⟨x, rfl, hx⟩, e3⟩ := hd
      subst e1
      subst e3
      refine ⟨_, ⟨_, rfl, ?_, ?_⟩, cd_min⟩ <;> split <;> omega
    · subst p1
      obtain ⟨v, rfl, hv⟩ := p2
      exact ⟨_, ⟨_, rfl, by omega⟩, od_add⟩
    · obtain ⟨ds, ⟨d1, ds', rfl, ⟨ds3, rfl, m3, j3, e3, rfl, hj0, hj1⟩, e4⟩, rfl⟩ := p1
      subst e4
      subst p2
      obtain ⟨d, hd, e5⟩ := pick j3 2 hj0 (by decide)
      exact ⟨d, hd, od_ixL e5⟩
    · obtain ⟨d1, ds', rfl, _, e4⟩ := hd
      subst e4
      exact sz_ok rfl
    obtain ⟨hi', rfl, hi0, hi1⟩ := hd5
    have kfr : Kp [q] (fun H => Keep [b] H0 H ∧ fr H) := Kp.and (Kp.base fun a ha => by rw [List.mem_singleton] at ha; exact .inr (by rw [ha]; exact hq0)) (hfr.less fun a ha => by rw [List.mem_singleton] at ha; rw [ha]; exact List.mem_cons_self)
    refine z_appP 6 (n := n + 5 * (sz - (i + 1))) (k := 2) (ds := a.map (rowD true)) (fr := fun H => Keep [b] H0 H ∧ fr H) (P := fun d => ∃ z : Option Bool, d = rowD true ⟨lo, hi', r.u, r.ns, z⟩) List.mem_cons_self List.mem_cons_self hbB nqb kfr (pz_imp (k1 := 0 + (0 + (0 + (0 + (2 + 0 + 0))))) (pz_tup (pza_cons hbB (pz_D (de_var 10 rfl) kq0) (pza_cons hbB (pz_D (de_var 11 rfl) kq0) (pza_cons hbB (pz_D (de_ixT rfl (de_var 8 rfl) de_int) kq0) (pza_cons hbB (pz_D (de_ixT rfl (de_var 8 rfl) de_int) kq0) (pza_cons hbB (pz_call G59 hr hbB hmb kq (pza_D (da_cons (de_cmp op_in_seq (od_inT (flat_int _) (flat_ints _)) (de_var 7 rfl) (de_var 5 rfl) rfl) (da_cons (de_var 3 rfl) da_nil)) kq0) (fun ds hd => ⟨_, hd⟩)) (pza_D da_nil kq0)))))) (fun ds hd => ?_) kq0) (by decide) (fun d h => ?_)) (by rw [List.length_map, hL.len, sizeLine_eq]; omega) (fun d6 hd6 => z_nil fun σ H h => ?_)
    · obtain ⟨d1, t1, rfl, _, d2, t2, rfl, _, d3, t3, rfl, _, d4, t4, rfl, _, d5, t5, rfl, _, e5⟩ := hd
      subst e5
      exact sz_ok rfl
    · obtain ⟨ds, ⟨d1, t1, rfl, rfl, d2, t2, rfl, rfl, d3, t3, rfl, rfl, d4, t4, rfl, rfl, d5, t5, rfl, ⟨ds5, _, z, rfl⟩, rfl⟩, rfl⟩ := h
      exact ⟨z, rfl⟩
    · obtain ⟨z, rfl⟩ := hd6
      have eu : (a ++ [(⟨lo, hi', r.u, r.ns, z⟩ : Row)]).map (·.u) = (rs.take (i + 1)).map (·.u) := by
        rw [List.map_append, hu, List.take_succ, e1, List.map_append]
        rfl
      refine ⟨a ++ [⟨lo, hi', r.u, r.ns, z⟩], ⟨⟨by rw [List.length_append, hL.len]; rfl, fun r' hr' => ?_, ?_⟩, eu⟩, ?_⟩
      · rcases List.mem_append.mp hr' with m | m
        · exact hL.row r' m
        · rw [List.mem_singleton] at m
          rw [m]
          exact ⟨⟨lo0, by show lo ≤ hi'; omega, hi1, x2⟩, n1, n2, n3⟩
      · have pw : ((rs.take (i + 1)).map (·.u)).Pairwise (· < ·) := by
          rw [List.pairwise_map]
          exact hS.asc.sublist (List.take_sublist _ _)
        rw [← eu, List.pairwise_map] at pw
        exact pw
      · have hh := ((((h.drop 7).drop 8).drop 9).drop 10).drop 11
        rw [List.map_append]
        exact hh.imp fun H q => ⟨⟨q.1, q.2.1, q.2.2.1⟩, q.2.2.2⟩
  · rw [elen] at hC
    rw [elen]
    refine z_frz 6 List.mem_cons_self hqB (z_ret (z_D (de_tupL T.tuple (de_var 6 rfl)) (bf_kp k0)) fun σ v H' qq => ⟨_, ⟨sz, _, _, a, rfl, hC.1, rfl⟩, qq.1.2.2.2.2, qq.1.2.2.2.1.less (by omega), qq.2⟩)
end
end Sv
/-! part Y8 -/
set_option Elab.async false
set_option linter.all false
set_option maxRecDepth 100000
set_option maxHeartbeats 4000000
namespace Sv
open PySem PySem.Spec PyProof.Rows L2 TL
/-! ### _law_spoilt_by -/
def OkT (n : Nat) (d : PyData) : Prop := ∃ z : Str, d = .str z ∧ PyData.strOk z = true ∧ z.length ≤ n
theorem strOk_app {x y : Str} (hx : PyData.strOk x = true) (hy : PyData.strOk y = true) : PyData.strOk (x ++ y) = true := strOk_iff.mpr fun c hc => by
  rw [tl_append] at hc
  rcases List.mem_append.mp hc with q | q
  · exact strOk_iff.mp hx c q
  · exact strOk_iff.mp hy c q
theorem strOk_cut {z : Str} (hz : PyData.strOk z = true) (lo hi : Option Int) : PyData.strOk (cutS z lo hi) = true := strOk_iff.mpr fun c hc =>
  strOk_iff.mp hz c (List.mem_of_mem_drop (List.mem_of_mem_take (by simpa [cutS, tl] using hc)))
theorem cut_len {z : Str} {lo hi : Option Int} : (cutS z lo hi).length ≤ HT.sIx z.length z.length hi - HT.sIx z.length 0 lo := by
  show ((z.cps.toList.drop _).take _).toArray.size ≤ _
  rw [List.size_toArray, List.length_take]
  exact Nat.min_le_left _ _
theorem OkT.app {n m k : Nat} {d1 d2 : PyData} (h1 : OkT n d1) (h2 : OkT m d2) (l : n + m ≤ k) (hk : k ≤ 100000) : ∃ d, OkT k d ∧ OpD (fun x y H Q => ∃ i j, x = .str i ∧ y = .str j ∧ i.length + j.length ≤ sizeLine ∧ Q (.str (i ++ j)) H) d1 d2 d := by
  obtain ⟨x, rfl, hx, lx⟩ := h1
  obtain ⟨y, rfl, hy, ly⟩ := h2
  exact ⟨_, ⟨_, rfl, strOk_app hx hy, by rw [Str.length_append]; omega⟩, od_addS (by rw [sizeLine_eq]; omega)⟩
theorem join_mem (y : Str) : ∀ (l : List Str) (c : Nat), c ∈ tl (Str.join y l) → c ∈ tl y ∨ ∃ p ∈ l, c ∈ tl p
  | [], c, h => by
    have e : tl (Str.join y []) = [] := rfl
    rw [e] at h
    cases h
  | [a], c, h => .inr ⟨a, List.mem_singleton.mpr rfl, h⟩
  | a :: b :: r, c, h => by
    have e : Str.join y (a :: b :: r) = a ++ y ++ Str.join y (b :: r) := rfl
    rw [e, tl_append, tl_append] at h
    rcases List.mem_append.mp h with q | q
    · rcases List.mem_append.mp q with q | q
      · exact .inr ⟨a, List.mem_cons_self, q⟩
      · exact .inl q
    · rcases join_mem y (b :: r) c q with q | ⟨p, hp, q⟩
      · exact .inl q
      · exact .inr ⟨p, List.mem_cons_of_mem _ hp, q⟩
def cutL {α : Type} (xs : List α) (lo hi : Option Int) : List α := (xs.drop (HT.sIx xs.length 0 lo)).take (HT.sIx xs.length xs.length hi - HT.sIx xs.length 0 lo)
theorem cutD_map {α : Type} (f : α → PyData) (xs : List α) (lo hi : Option Int) : cutD (xs.map f) lo hi = (cutL xs lo hi).map f := by
  unfold cutD cutL
  rw [List.length_map, ← List.map_drop, ← List.map_take]
theorem turn_perm {α : Type} (xs : List α) (k : Nat) : (cutL xs none (some (k : Nat)) ++ (cutL xs (some (k : Nat)) (some ((k : Nat) + 2))).reverse ++ cutL xs (some ((k : Nat) + 2)) none).Perm xs := by
  have e2 : ((k : Int) + 2) = ((k + 2 : Nat) : Int) := by omega
  unfold cutL
  rw [e2, HT.sIx_nat, HT.sIx_nat, HT.sIx_nat, HT.sIx_nat, HT.sIx_none, HT.sIx_none, List.drop_zero, Nat.sub_zero]
  generalize hi : min k xs.length = i
  generalize hj : min (k + 2) xs.length = j
  have hij : i ≤ j := by omega
  have hjn : j ≤ xs.length := by omega
  have e3 : (xs.drop j).take (xs.length - j) = xs.drop j := List.take_of_length_le (by rw [List.length_drop]; exact Nat.le_refl _)
  rw [e3]
  have p1 : (xs.take i ++ ((xs.drop i).take (j - i)).reverse ++ xs.drop j).Perm (xs.take i ++ (xs.drop i).take (j - i) ++ xs.drop j) := ((List.reverse_perm _).append_left _).append_right _
  refine p1.trans ?_
  have e4 : xs.take i ++ (xs.drop i).take (j - i) ++ xs.drop j = xs := by
    have e5 : xs.drop j = (xs.drop i).drop (j - i) := by rw [List.drop_drop, Nat.add_sub_cancel' hij]
    rw [e5, List.append_assoc, List.take_append_drop, List.take_append_drop]
  rw [e4]
theorem Rps.rev {B : List Addr} {H : Hp} : ∀ {xs : List V} {ds : List PyData}, Rps B H xs ds → Rps B H xs.reverse ds.reverse
  | _, _, .nil => .nil
  | _, _, .cons r s => by
    rw [List.reverse_cons, List.reverse_cons]
    exact s.rev.append (Rps.one r)
section
variable {X : Cx} {r : Rho} {ds : List PyData} {e : Expr} {pos : Pos}
theorem de_revL {k : Nat} {p1 p2 p3 : Pos} (he : PE X e (tD r (.list ds))) : PE X (.Subscript e (.Slice none none (some (.UnaryOp .USub (.Constant (.int 1) k p1) p2)) p3) pos) (tD r (.list ds.reverse)) := (pe_revL he).wkS fun σ H Q ⟨B, D, E, k⟩ => ⟨B, D, E, fun v H1 s rv => by
  obtain ⟨a, xs, e, h, n, rs⟩ := rv.list_inv
  subst e
  exact ⟨a, xs, rfl, .inl h, fun p hp => k _ _ (s.trans (same_new hp)) (Rp.lst_new hp (D.same s) rs.rev)⟩⟩
end
section
variable {P : Program} {w : World} {K : PySem.W.Frag} {mg : Str → Option Value} {base : Heap}
abbrev N63 : List Str := ["_law_box_here", "_law_sheet", "_law_way_so", "_law_spot", "_law_signs", "_law_gap", "_law_bits"]
theorem sc63 : FnScope N63 ["_law_box_here", "_law_sheet"] (defScope (top 63)) := ⟨rfl, rfl, rfl, by decide +kernel, rfl, by decide +kernel, by decide +kernel⟩
def P63 : List PyData → Prop := fun ds => ∃ z : Str, ds = [.str z] ∧ PyData.strOk z = true ∧ z.length ≤ 2999
def F63 : List PyData → PyData → Prop := fun ds d => ∃ z : Str, ds = [.str z] ∧ OkT (z.length + 1) d
def signs63 : List Str := [" ", "\n",
  "-", "/", ",", ":", "?",
  "0", "1", "9", "a", "b",
  "y", "A", "_"]
theorem signs_ok : ∀ z ∈ signs63, PyData.strOk z = true ∧ z.length = 1 := by decide +kernel
theorem gaps_ok : ∀ z ∈ ([" ", "\n", "-", ","] : List Str), PyData.strOk z = true ∧ z.length = 1 ∧ tl z ≠ [] ∧ z.cps.all (· < 256) = true := by decide +kernel
theorem ok_spoilt {f : Addr} {fd : FuncData} (F : FnP K "_law_spoilt_by" (top 63) f fd) (T : Tx mg) (G50 : Has P w K mg base CX0 2 "_law_take" ["_law_box_here", "_law_below"] (spB P50 F50 1)) (G52 : Has P w K mg base CX0 2 "_law_of" ["_law_box_here", "_law_some"] (spB P52 F52 1)) : FnOk P w K mg base CX0 3 f fd ["_law_box_here", "_law_sheet"] (spB P63 F63 4) := by
  refine fn_okB F sc63 (fun ds ⟨z, h, _⟩ => by rw [h]; rfl) fun cdv A outer s H E hr ds hp B b n H0 hb => ?_
  obtain ⟨z, rfl, hzk, hzl⟩ := hp
  show PSs _ _ (tZ (AD B [(0, b)] _ [none, some (.str z), none, none, none, none, none]) _ _)
  have kb : Kp [b] (Keep [b] H0) := Kp.base fun a ha => .inl ha
  have k0 : Kp [] (Keep [b] H0) := kb.less fun a ha => by cases ha
  have hmb : ((0 : Nat), b) ∈ [((0 : Nat), b)] := List.mem_singleton.mpr rfl
  have hzs : z.length ≤ sizeLine := by rw [sizeLine_eq]; omega
  refine z_parP 2 3 (n := n + 2) (k := 1 + (1 + 0)) (P2 := fun d1 d2 => ∃ (a : Int) (c : Nat), d1 = .int a ∧ d2 = .int (c : Nat) ∧ c ≤ z.length) hb rfl (pza_cons hb (pz_call G50 hr hb hmb kb (pza_D (da_cons de_int da_nil) k0) (fun ds hd => ⟨_, hd, by decide, by decide⟩)) (pza_cons hb (pz_call G50 hr hb hmb kb (pza_D (da_cons (de_add (de_lenS T.len hzs (de_var 1 rfl)) de_int) da_nil) k0) (fun ds hd => ⟨_, hd, by omega, by omega⟩)) (pza_D da_nil k0))) (fun ds hd => ?_) (fun d1 d2 h12 => ?_) sc63.nd
  · obtain ⟨d1, t1, rfl, ⟨ds1, rfl, m1, j1, e1, rfl, h10, h11⟩, d2, t2, rfl, ⟨ds2, rfl, m2, j2, e2, rfl, h20, h21⟩, e3⟩ := hd
    subst e3
    cases e2
    exact ⟨_, _, rfl, j1, j2.toNat, rfl, by rw [Int.toNat_of_nonneg h20], by omega⟩
  obtain ⟨way, c, rfl, rfl, hc⟩ := h12
  have lo : OkT c (.str (cutS z none (some (c : Nat)))) := ⟨_, rfl, strOk_cut hzk _ _, Nat.le_trans cut_len (by rw [HT.sIx_nat, HT.sIx_none]; omega)⟩
  have up : OkT (z.length - c) (.str (cutS z (some (c : Nat)) none)) := ⟨_, rfl, strOk_cut hzk _ _, Nat.le_trans cut_len (by rw [HT.sIx_nat, HT.sIx_none]; omega)⟩
  have up1 : OkT (z.length - c) (.str (cutS z (some ((c : Nat) + 1)) none)) := ⟨_, rfl, strOk_cut hzk _ _, Nat.le_trans cut_len (by rw [show ((c : Int) + 1) = ((c + 1 : Nat) : Int) by omega, HT.sIx_nat, HT.sIx_none]; omega)⟩
  have mid : OkT 1 (.str (cutS z (some (c : Nat)) (some ((c : Nat) + 1)))) := ⟨_, rfl, strOk_cut hzk _ _, Nat.le_trans cut_len (by rw [show ((c : Int) + 1) = ((c + 1 : Nat) : Int) by omega, HT.sIx_nat, HT.sIx_nat]; omega)⟩
  refine z_setD (d := .list (signs63.map .str)) 4 (bf_kp k0) (de_lst (da_strs rfl) (sz_ok rfl)) ?_ sc63.nd
  have sg : ∀ d, (∃ ds, ds = [PyData.list (signs63.map .str)] ∧ F52 ds d) → OkT 1 d := fun d ⟨ds, e, xs, e1, h1⟩ => by
    rw [e] at e1
    cases e1
    obtain ⟨y, hy, rfl⟩ := List.mem_map.mp h1
    exact ⟨y, rfl, (signs_ok y hy).1, by rw [(signs_ok y hy).2]; exact Nat.le_refl _⟩
  have p52 : P52 [PyData.list (signs63.map .str)] := ⟨_, rfl, by decide, by decide⟩
  refine z_ifR (bf_kp k0) (dt_cmp op_lt od_lt (de_var 2 rfl) de_int (nomark _)) (fun _ => ?_) (fun _ => ?_)
  · refine z_retP (k := 1) (n := n + 1) (pz_imp (k1 := 0 + (1 + 0) + 0) (P1 := OkT (z.length + 1)) (pz_bin (P := OkT (z.length + 1)) hb op_add_str (fun d1 d2 p1 p2 => OkT.app p1 (p2 ▸ up) (by omega) (by omega)) (pz_bin (P := OkT (c + 1)) hb op_add_str (fun d1 d2 p1 p2 => OkT.app (p1 ▸ lo) (sg _ p2) (Nat.le_refl _) (by omega)) (pz_D (de_slS hzs (de_var 1 rfl) dp_none (dp_some (de_var 3 rfl))) k0) (pz_call G52 hr hb hmb kb (pza_D (da_cons (de_var 4 rfl) da_nil) k0) (fun ds hd => hd ▸ p52)) k0) (pz_D (de_slS hzs (de_var 1 rfl) (dp_some (de_var 3 rfl)) dp_none) k0) k0) (by decide) (fun d h => h)) fun v H' d pd _ hbx hk rv => ⟨d, ⟨z, rfl, pd⟩, hk, hbx.less (by omega), rv⟩
  refine z_ifR (bf_kp k0) (dt_cmp op_eq od_eqI (de_var 2 rfl) de_int (nomark _)) (fun _ => ?_) (fun _ => ?_)
  · refine z_retP (k := 0) (n := n + 2) (pz_imp (k1 := 0 + 0) (P1 := OkT (z.length + 1)) (pz_bin (P := OkT (z.length + 1)) hb op_add_str (fun d1 d2 p1 p2 => OkT.app (p1 ▸ lo) (p2 ▸ up1) (by omega) (by omega)) (pz_D (de_slS hzs (de_var 1 rfl) dp_none (dp_some (de_var 3 rfl))) k0) (pz_D (de_slS hzs (de_var 1 rfl) (dp_some (de_add (de_var 3 rfl) de_int)) dp_none) k0) k0) (by decide) (fun d h => h)) fun v H' d pd _ hbx hk rv => ⟨d, ⟨z, rfl, pd⟩, hk, hbx.less (by omega), rv⟩
  refine z_ifR (bf_kp k0) (dt_cmp op_eq od_eqI (de_var 2 rfl) de_int (nomark _)) (fun _ => ?_) (fun _ => ?_)
  · refine z_retP (k := 0) (n := n + 2) (pz_imp (k1 := 0 + 0 + 0) (P1 := OkT (z.length + 1)) (pz_bin (P := OkT (z.length + 1)) hb op_add_str (fun d1 d2 p1 p2 => OkT.app p1 (p2 ▸ up) (by omega) (by omega)) (pz_bin (P := OkT (c + 1)) hb op_add_str (fun d1 d2 p1 p2 => OkT.app (p1 ▸ lo) (p2 ▸ mid) (Nat.le_refl _) (by omega)) (pz_D (de_slS hzs (de_var 1 rfl) dp_none (dp_some (de_var 3 rfl))) k0) (pz_D (de_slS hzs (de_var 1 rfl) (dp_some (de_var 3 rfl)) (dp_some (de_add (de_var 3 rfl) de_int))) k0) k0) (pz_D (de_slS hzs (de_var 1 rfl) (dp_some (de_var 3 rfl)) dp_none) k0) k0) (by decide) (fun d h => h)) fun v H' d pd _ hbx hk rv => ⟨d, ⟨z, rfl, pd⟩, hk, hbx.less (by omega), rv⟩
  refine z_ifR (bf_kp k0) (dt_cmp op_eq od_eqI (de_var 2 rfl) de_int (nomark _)) (fun _ => ?_) (fun _ => ?_)
  · refine z_retP (k := 1) (n := n + 1) (pz_imp (k1 := 0 + (1 + 0) + 0) (P1 := OkT (z.length + 1)) (pz_bin (P := OkT (z.length + 1)) hb op_add_str (fun d1 d2 p1 p2 => OkT.app p1 (p2 ▸ up1) (by omega) (by omega)) (pz_bin (P := OkT (c + 1)) hb op_add_str (fun d1 d2 p1 p2 => OkT.app (p1 ▸ lo) (sg _ p2) (Nat.le_refl _) (by omega)) (pz_D (de_slS hzs (de_var 1 rfl) dp_none (dp_some (de_var 3 rfl))) k0) (pz_call G52 hr hb hmb kb (pza_D (da_cons (de_var 4 rfl) da_nil) k0) (fun ds hd => hd ▸ p52)) k0) (pz_D (de_slS hzs (de_var 1 rfl) (dp_some (de_add (de_var 3 rfl) de_int)) dp_none) k0) k0) (by decide) (fun d h => h)) fun v H' d pd _ hbx hk rv => ⟨d, ⟨z, rfl, pd⟩, hk, hbx.less (by omega), rv⟩
  refine z_setP 5 (k := 1) (n := n + 1) (P := fun d => ∃ g : Str, d = .str g ∧ g ∈ ([" ", "\n", "-", ","] : List Str)) (pz_imp (k1 := 1 + 0) (pz_call G52 hr hb hmb kb (pza_D (da_cons (de_lst (da_strs (zs := [" ", "\n", "-", ","]) rfl) (sz_ok rfl)) da_nil) k0) (fun ds hd => ⟨_, hd, by decide, by decide⟩)) (by decide) (fun d h => ?_)) (fun d5 hd5 => ?_) sc63.nd
  · obtain ⟨ds, rfl, xs, e1, h1⟩ := h
    cases e1
    obtain ⟨y, hy, rfl⟩ := List.mem_map.mp h1
    exact ⟨y, rfl, hy⟩
  obtain ⟨g, rfl, hg⟩ := hd5
  obtain ⟨g1, g2, g3, g4⟩ := gaps_ok g hg
  have sw := split_weight z g (by omega)
  have sne : Txt.split z g ≠ [] := (split_bounds g3 g4 z).2.2
  have spos : 0 < (Txt.split z g).length := List.length_pos_iff.mpr sne
  refine z_setD (d := .list ((Txt.split z g).map .str)) 6 (bf_kp k0) (de_split (by rw [g2]; rfl) (by rw [sizeLine_eq]; omega) (de_var 1 rfl) (de_var 5 rfl)) ?_ sc63.nd
  refine z_setP 3 (k := 1) (n := n) (P := fun d => ∃ k : Nat, d = .int (k : Nat)) (pz_imp (k1 := 1 + 0) (pz_call G50 hr hb hmb kb (pza_D (da_cons (de_lenL T.len (de_var 6 rfl)) da_nil) k0) (fun ds hd => ⟨_, hd, by rw [List.length_map]; omega, by rw [List.length_map]; omega⟩)) (by decide) (fun d h => ?_)) (fun d6 hd6 => ?_) sc63.nd
  · obtain ⟨ds, rfl, m, j, e1, rfl, h0, h1⟩ := h
    exact ⟨j.toNat, by rw [Int.toNat_of_nonneg h0]⟩
  obtain ⟨k, rfl⟩ := hd6
  have hperm := turn_perm (Txt.split z g) k
  generalize hys : cutL (Txt.split z g) none (some (k : Nat)) ++ (cutL (Txt.split z g) (some (k : Nat)) (some ((k : Nat) + 2))).reverse ++ cutL (Txt.split z g) (some ((k : Nat) + 2)) none = ys at hperm
  have hsum : (ys.map (·.length)).sum = ((Txt.split z g).map (·.length)).sum := (hperm.map _).sum_nat
  have hlen : ys.length = (Txt.split z g).length := hperm.length_eq
  have l1 : (cutL (Txt.split z g) none (some (k : Nat))).length ≤ (Txt.split z g).length := by
    unfold cutL; rw [List.length_take, List.length_drop]; omega
  have l2 : (cutL (Txt.split z g) (some (k : Nat)) (some ((k : Nat) + 2))).length ≤ (Txt.split z g).length := by
    unfold cutL; rw [List.length_take, List.length_drop]; omega
  have l3 : (cutL (Txt.split z g) (some ((k : Nat) + 2)) none).length ≤ (Txt.split z g).length := by
    unfold cutL; rw [List.length_take, List.length_drop]; omega
  have res : OkT (z.length + 1) (.str (Txt.join g ys)) := by
    refine ⟨_, rfl, strOk_iff.mpr fun c hc => ?_, ?_⟩
    · rw [TL.join_eq] at hc
      rcases join_mem g ys c hc with q | ⟨p, hp, q⟩
      · exact strOk_iff.mp g1 c q
      · exact strOk_iff.mp hzk c (split_mem g3 g4 (hperm.mem_iff.mp hp) c q)
    · cases ys with
      | nil =>
        rw [TL.join_eq]
        exact Nat.zero_le _
      | cons a l =>
        have e1 := len_join_cons g a l
        rw [hsum, g2] at e1
        rw [List.length_cons] at hlen
        rw [TL.join_eq]
        omega
  refine z_ret (z_D (de_join (ys := ys) (.inl rfl) (by rw [hsum, hlen, g2]; omega) (de_var 5 rfl) (de_of (de_bin op_cat (od_catL ?_) (de_bin op_cat (od_catL ?_) (de_slL (de_var 6 rfl) dp_none (dp_some (de_var 3 rfl))) (de_revL (de_slL (de_var 6 rfl) (dp_some (de_var 3 rfl)) (dp_some (de_add (de_var 3 rfl) de_int))))) (de_slL (de_var 6 rfl) (dp_some (de_add (de_var 3 rfl) de_int)) dp_none)) ?_)) (bf_kp k0)) fun σ v H' qq => ⟨_, ⟨z, rfl, res⟩, qq.1.2.2.2.2, qq.1.2.2.2.1, qq.2⟩
  · rw [cutD_map, cutD_map, cutD_map, ← List.map_reverse, ← List.map_append, List.length_map, List.length_map, List.length_append, List.length_reverse, sizeLine_eq]
    omega
  · rw [cutD_map, cutD_map, ← List.map_reverse, List.length_map, List.length_map, List.length_reverse, sizeLine_eq]
    omega
  · rw [cutD_map, cutD_map, cutD_map, ← List.map_reverse, ← List.map_append, ← List.map_append, hys]
end
end Sv
/-! part M3 -/
set_option Elab.async false
set_option linter.all false
set_option maxRecDepth 100000
set_option maxHeartbeats 4000000
namespace Sv
open PySem PySem.Spec PyProof.Rows L2 TL
/-! ### what is written is read back -/
theorem num_fin : ∀ i : Fin 101, numS (txI ((i.val : Nat) : Int)) = some ((i.val : Nat) : Int) ∧ (tl (txI ((i.val : Nat) : Int))).all (fun c => decide (48 ≤ c ∧ c ≤ 57)) = true := by decide +kernel
theorem num_back {i : Int} (h : 0 ≤ i ∧ i ≤ 100) : numS (txI i) = some i ∧ ∀ c ∈ tl (txI i), 48 ≤ c ∧ c ≤ 57 := by
  have e : (((i.toNat : Nat)) : Int) = i := Int.toNat_of_nonneg h.1
  have q := num_fin ⟨i.toNat, by omega⟩
  dsimp only at q
  rw [e] at q
  exact ⟨q.1, fun c hc => of_decide_eq_true (List.all_eq_true.mp q.2 c hc)⟩
structure RowOk (b : Bool) (r : Row) : Prop where
  lo : 0 ≤ r.x ∧ r.x ≤ r.y ∧ r.y < r.u ∧ r.u ≤ 100
  nm : namesB r.ns = true ∧ r.ns ≠ []
  ses : b = false → r.y = r.x ∧ r.a = none
theorem nm_sign {ns : List Str} (h : namesB ns = true) : ∀ z ∈ ns, ∀ c ∈ tl z, 97 ≤ c ∧ c ≤ 122 := fun z hz c hc => by
  have h1 := List.all_eq_true.mp (Bool.and_eq_true_iff.mp h).1 z hz
  exact letterC_iff.mp (List.all_eq_true.mp (Bool.and_eq_true_iff.mp h1).2 c hc)
theorem join_sign {ns : List Str} (h : namesB ns = true) : ∀ c ∈ tl (Txt.join "," ns), c = 44 ∨ (97 ≤ c ∧ c ≤ 122) := fun c hc => by
  rw [TL.join_eq] at hc
  rcases join_mem _ _ c hc with q | ⟨z, hz, q⟩
  · rw [show tl ("," : Str) = [44] by decide +kernel, List.mem_singleton] at q
    exact .inl q
  · exact .inr (nm_sign h z hz c q)
theorem names_back {ns : List Str} (h : namesB ns = true) (h0 : ns ≠ []) : Txt.split (Txt.join "," ns) "," = ns :=
  split_join (s := 44) (S := []) (by decide +kernel) (by decide +kernel) h0 fun p hp hc => by
    have := nm_sign h p hp 44 hc
    omega
theorem join2 (a b : Str) (g : Str) : Txt.join g [a, b] = a ++ g ++ b := by
  refine TL.ext_tl ?_
  rw [TL.join_eq, TL.tl_join]
  simp only [List.map_cons, List.map_nil, TL.joinL, TL.tl_append, List.append_assoc]
theorem join1 (a : Str) (g : Str) : Txt.join g [a] = a := by
  rw [TL.join_eq]
  rfl
theorem open_sign {r : Row} (hx : 0 ≤ r.x ∧ r.x ≤ 100) (hy : 0 ≤ r.y ∧ r.y ≤ 100) : ∀ c ∈ tl (openT r), 47 ≤ c ∧ c ≤ 57 := fun c hc => by
  unfold openT at hc
  split at hc
  · have := (num_back hx).2 c hc
    omega
  · rw [tl_append, tl_append, show tl ("/" : Str) = [47] by decide +kernel] at hc
    rcases List.mem_append.mp hc with q | q
    · rcases List.mem_append.mp q with q | q
      · have := (num_back hx).2 c q
        omega
      · rw [List.mem_singleton] at q
        omega
    · have := (num_back hy).2 c q
      omega
/-- the first word of a row -/
def spanT (b : Bool) (r : Row) : Str := if b then openT r ++ "-" ++ txI r.u else txI r.x ++ "-" ++ txI r.u
theorem span_sign {b : Bool} {r : Row} (h : RowOk b r) : ∀ c ∈ tl (spanT b r), 45 ≤ c ∧ c ≤ 57 := fun c hc => by
  have l := h.lo
  have hu := (num_back (i := r.u) ⟨by omega, l.2.2.2⟩).2
  unfold spanT at hc
  split at hc
  · rw [tl_append, tl_append, show tl ("-" : Str) = [45] by decide +kernel] at hc
    rcases List.mem_append.mp hc with q | q
    · rcases List.mem_append.mp q with q | q
      · have := open_sign (r := r) ⟨l.1, by omega⟩ ⟨by omega, by omega⟩ c q
        omega
      · rw [List.mem_singleton] at q
        omega
    · have := hu c q
      omega
  · rw [tl_append, tl_append, show tl ("-" : Str) = [45] by decide +kernel] at hc
    rcases List.mem_append.mp hc with q | q
    · rcases List.mem_append.mp q with q | q
      · have := (num_back (i := r.x) ⟨l.1, by omega⟩).2 c q
        omega
      · rw [List.mem_singleton] at q
        omega
    · have := hu c q
      omega
theorem split_dash {a b : Str} (ha : ∀ c ∈ tl a, c ≠ 45) (hb : ∀ c ∈ tl b, c ≠ 45) : Txt.split (a ++ "-" ++ b) "-" = [a, b] := by
  rw [← join2]
  refine split_join (s := 45) (S := []) (by decide +kernel) (by decide +kernel) (List.cons_ne_nil _ _) fun p hp hc => ?_
  simp only [List.mem_cons, List.not_mem_nil, or_false] at hp
  rcases hp with e | e <;> subst e
  · exact ha 45 hc rfl
  · exact hb 45 hc rfl
theorem split_slash1 {a : Str} (ha : ∀ c ∈ tl a, c ≠ 47) : Txt.split a "/" = [a] := by
  have e : Txt.split (Txt.join "/" [a]) "/" = [a] := split_join (s := 47) (S := []) (by decide +kernel) (by decide +kernel) (List.cons_ne_nil _ _) fun p hp hc => by
    rw [List.mem_singleton] at hp
    subst hp
    exact ha 47 hc rfl
  rw [join1] at e
  exact e
theorem split_slash2 {a b : Str} (ha : ∀ c ∈ tl a, c ≠ 47) (hb : ∀ c ∈ tl b, c ≠ 47) : Txt.split (a ++ "/" ++ b) "/" = [a, b] := by
  rw [← join2]
  refine split_join (s := 47) (S := []) (by decide +kernel) (by decide +kernel) (List.cons_ne_nil _ _) fun p hp hc => ?_
  simp only [List.mem_cons, List.not_mem_nil, or_false] at hp
  rcases hp with e | e <;> subst e
  · exact ha 47 hc rfl
  · exact hb 47 hc rfl
theorem span_back {b : Bool} {r : Row} (h : RowOk b r) : spanS b (spanT b r) = some (r.x, r.y, r.u) := by
  have l := h.lo
  have hx := num_back (i := r.x) ⟨l.1, by omega⟩
  have hy := num_back (i := r.y) ⟨by omega, by omega⟩
  have hu := num_back (i := r.u) ⟨by omega, l.2.2.2⟩
  have x45 : ∀ c ∈ tl (txI r.x), c ≠ 45 := fun c hc => by have := hx.2 c hc; omega
  have u45 : ∀ c ∈ tl (txI r.u), c ≠ 45 := fun c hc => by have := hu.2 c hc; omega
  have x47 : ∀ c ∈ tl (txI r.x), c ≠ 47 := fun c hc => by have := hx.2 c hc; omega
  have y47 : ∀ c ∈ tl (txI r.y), c ≠ 47 := fun c hc => by have := hy.2 c hc; omega
  cases b with
  | false =>
    have e1 : spanT false r = txI r.x ++ "-" ++ txI r.u := rfl
    unfold spanS
    rw [e1, split_dash x45 u45]
    dsimp only
    rw [split_slash1 x47]
    dsimp only
    rw [hx.1, hu.1, (h.ses rfl).1]
  | true =>
    have e1 : spanT true r = openT r ++ "-" ++ txI r.u := rfl
    have o45 : ∀ c ∈ tl (openT r), c ≠ 45 := fun c hc => by
      have := open_sign (r := r) ⟨l.1, by omega⟩ ⟨by omega, by omega⟩ c hc
      omega
    unfold spanS
    rw [e1, split_dash o45 u45]
    dsimp only
    unfold openT
    by_cases e : r.x = r.y
    · rw [if_pos e, split_slash1 x47]
      dsimp only
      rw [hx.1, hu.1, ← e]
    · rw [if_neg e, split_slash2 x47 y47]
      dsimp only
      rw [hx.1, hy.1, hu.1]
      dsimp only
      rw [if_pos rfl, if_neg e]
theorem ansT_sign : ∀ a : Option Bool, ansS (ansT a) = some a ∧ (tl (ansT a)).all (fun c => decide (c ≠ 32 ∧ c ≠ 10)) = true
  | none => by decide +kernel
  | some true => by decide +kernel
  | some false => by decide +kernel
theorem ansT_no (a : Option Bool) : ∀ c ∈ tl (ansT a), c ≠ 32 ∧ c ≠ 10 := fun c hc => of_decide_eq_true (List.all_eq_true.mp (ansT_sign a).2 c hc)
theorem line_back {b : Bool} {r : Row} (h : RowOk b r) : lineO b (rowT b r) = some r := by
  have l := h.lo
  have s1 : ∀ c ∈ tl (spanT b r), c ≠ 32 := fun c hc => by have := span_sign h c hc; omega
  have s2 : ∀ c ∈ tl (Txt.join "," r.ns), c ≠ 32 := fun c hc => by
    rcases join_sign h.nm.1 c hc with e | e <;> omega
  cases b with
  | false =>
    have e1 : rowT false r = Txt.join " " [spanT false r, Txt.join "," r.ns] := by rw [join2]; rfl
    have e2 : Txt.split (rowT false r) " " = [spanT false r, Txt.join "," r.ns] := by
      rw [e1]
      refine split_join (s := 32) (S := []) (by decide +kernel) (by decide +kernel) (List.cons_ne_nil _ _) fun p hp hc => ?_
      simp only [List.mem_cons, List.not_mem_nil, or_false] at hp
      rcases hp with e | e <;> subst e
      · exact s1 32 hc rfl
      · exact s2 32 hc rfl
    unfold lineO
    rw [e2]
    dsimp only
    rw [span_back h]
    dsimp only
    rw [names_back h.nm.1 h.nm.2, if_pos ⟨by have := (h.ses rfl).1; omega, h.nm.1⟩]
    obtain ⟨x, y, u, ns, a⟩ := r
    obtain ⟨e3, e4⟩ := h.ses rfl
    dsimp only at e3 e4
    rw [e3, e4]
  | true =>
    have e1 : rowT true r = Txt.join " " [spanT true r, Txt.join "," r.ns, ansT r.a] := by rw [join3]; rfl
    have e2 : Txt.split (rowT true r) " " = [spanT true r, Txt.join "," r.ns, ansT r.a] := by
      rw [e1]
      refine split_join (s := 32) (S := []) (by decide +kernel) (by decide +kernel) (List.cons_ne_nil _ _) fun p hp hc => ?_
      simp only [List.mem_cons, List.not_mem_nil, or_false] at hp
      rcases hp with e | e | e <;> subst e
      · exact s1 32 hc rfl
      · exact s2 32 hc rfl
      · exact (ansT_no _ 32 hc).1 rfl
    unfold lineO
    rw [e2]
    dsimp only
    rw [(ansT_sign r.a).1, span_back h]
    dsimp only
    rw [names_back h.nm.1 h.nm.2, if_pos ⟨⟨l.2.1, l.2.2.1⟩, h.nm.1⟩]
theorem row_sign {b : Bool} {r : Row} (h : RowOk b r) : ∀ c ∈ tl (rowT b r), c ≠ 10 := fun c hc => by
  have s2 : ∀ c ∈ tl (Txt.join "," r.ns), c ≠ 10 := fun c hc => by
    rcases join_sign h.nm.1 c hc with e | e <;> omega
  have hs : ∀ c ∈ tl (spanT b r), c ≠ 10 := fun c hc => by have := span_sign h c hc; omega
  have sp : tl (" " : Str) = [32] := by decide +kernel
  cases b with
  | false =>
    have e1 : rowT false r = spanT false r ++ " " ++ Txt.join "," r.ns := rfl
    rw [e1, tl_append, tl_append, sp] at hc
    rcases List.mem_append.mp hc with q | q
    · rcases List.mem_append.mp q with q | q
      · exact hs c q
      · rw [List.mem_singleton] at q; omega
    · exact s2 c q
  | true =>
    have e1 : rowT true r = spanT true r ++ " " ++ Txt.join "," r.ns ++ " " ++ ansT r.a := rfl
    rw [e1, tl_append, tl_append, tl_append, tl_append, sp] at hc
    rcases List.mem_append.mp hc with q | q
    · rcases List.mem_append.mp q with q | q
      · rcases List.mem_append.mp q with q | q
        · rcases List.mem_append.mp q with q | q
          · exact hs c q
          · rw [List.mem_singleton] at q; omega
        · exact s2 c q
      · rw [List.mem_singleton] at q; omega
    · exact (ansT_no _ c q).2
theorem rows_good {b : Bool} : ∀ {rs : List Row} {i : Nat} {last : Int}, (∀ r ∈ rs, RowOk b r) → (∀ r ∈ rs, last < r.u) → rs.Pairwise (fun r s => r.u < s.u) → badAt b (rs.map (rowT b)) i last = none
  | [], _, _, _, _, _ => rfl
  | r :: rs, i, last, h1, h2, h3 => by
    rw [List.map_cons]
    unfold badAt
    rw [line_back (h1 r List.mem_cons_self)]
    dsimp only
    rw [if_neg (by have := h2 r List.mem_cons_self; omega)]
    exact rows_good (fun s hs => h1 s (List.mem_cons_of_mem _ hs)) (fun s hs => (List.pairwise_cons.mp h3).1 s hs) (List.pairwise_cons.mp h3).2
theorem rowT_ne {b : Bool} {r : Row} (h : RowOk b r) (rest : List Str) : Txt.join "\n" (rowT b r :: rest) ≠ "" := fun e => by
  have e1 := congrArg Str.length e
  rw [TL.join_eq, len_join_cons] at e1
  have e2 : 0 < (rowT b r).length := by
    refine Nat.pos_of_ne_zero fun z => ?_
    have e3 : rowT b r = "" := by
      refine TL.ext_tl ?_
      have : (tl (rowT b r)).length = 0 := by rw [← z]; exact len_list _
      rw [List.length_eq_zero_iff] at this
      rw [this]
      decide +kernel
    have e4 := line_back h
    rw [e3] at e4
    have e5 : lineO b "" = none := by cases b <;> decide +kernel
    rw [e5] at e4
    cases e4
  rw [show ("" : Str).length = 0 by rfl, List.map_cons, List.sum_cons] at e1
  omega
theorem sheet_back {b : Bool} {rs : List Row} (h1 : ∀ r ∈ rs, RowOk b r) (h2 : rs.Pairwise (fun r s => r.u < s.u)) : sheetD b (sheetT b rs) = .tuple (rs.map (rowD b)) := by
  have lines : linesS (sheetT b rs) = rs.map (rowT b) := by
    unfold linesS sheetT
    cases rs with
    | nil =>
      rw [if_pos]
      · rfl
      · rw [TL.join_eq]
        rfl
    | cons r rs =>
      rw [List.map_cons, if_neg (rowT_ne (h1 r List.mem_cons_self) _), ← List.map_cons]
      refine split_join (s := 10) (S := []) (by decide +kernel) (by decide +kernel) (by simp) fun p hp hc => ?_
      obtain ⟨s, hs, rfl⟩ := List.mem_map.mp hp
      exact row_sign (h1 s hs) 10 hc rfl
  unfold sheetD
  rw [lines, rows_good h1 (fun r hr => by have := (h1 r hr).lo; omega) h2]
  dsimp only
  rw [List.map_map]
  refine congrArg PyData.tuple (List.map_congr_left fun r hr => ?_)
  show lineD b (rowT b r) = _
  unfold lineD
  rw [line_back (h1 r hr)]
end Sv
/-! part M4 -/
set_option Elab.async false
set_option linter.all false
set_option maxRecDepth 100000
set_option maxHeartbeats 4000000
namespace Sv
open PySem PySem.Spec PyProof.Rows L2 TL
/-! ### data made of tuples -/
def leafD (d : PyData) : Prop := flatD d = true ∧ PyData.canLay0 d = true
def tuD : Nat → PyData → Prop
  | 0, d => leafD d
  | n + 1, d => leafD d ∨ ∃ ds, d = .tuple ds ∧ ds.length ≤ 3001 ∧ ∀ x ∈ ds, tuD n x
theorem tuD.leaf {n : Nat} {d : PyData} (h : leafD d) : tuD n d := by
  cases n with
  | zero => exact h
  | succ n => exact .inl h
theorem tuD.up : ∀ {n m : Nat} {d : PyData}, n ≤ m → tuD n d → tuD m d
  | 0, m, d, _, h => .leaf h
  | n + 1, 0, d, l, _ => absurd l (by omega)
  | n + 1, m + 1, d, l, h => by
    rcases h with h | ⟨ds, e, h1, h2⟩
    · exact .inl h
    · exact .inr ⟨ds, e, h1, fun x hx => (h2 x hx).up (by omega)⟩
theorem tuD.ok : ∀ {n : Nat} {d : PyData}, tuD n d → okD n d
  | 0, d, h => h.1
  | n + 1, d, h => by
    rcases h with h | ⟨ds, e, h1, h2⟩
    · exact .inl h.1
    · exact .inr ⟨ds, .inr e, h1, fun x hx => (h2 x hx).ok⟩
theorem lis_leaf {n : Nat} {d : PyData} (h : flatD d = true) : lisN n d = d := by
  cases n with
  | zero => rfl
  | succ n => cases d <;> first | rfl | cases h
theorem tup_leaf {n : Nat} {d : PyData} (h : flatD d = true) : tupN n d = d := by
  cases n with
  | zero => rfl
  | succ n => cases d <;> first | rfl | cases h
theorem tuD.lis : ∀ {n : Nat} {d : PyData}, tuD n d → okD n (lisN n d) ∧ tupN n (lisN n d) = d
  | 0, d, h => ⟨h.1, rfl⟩
  | n + 1, d, h => by
    rcases h with h | ⟨ds, rfl, h1, h2⟩
    · rw [lis_leaf h.1, tup_leaf h.1]
      exact ⟨.inl h.1, rfl⟩
    · refine ⟨.inr ⟨ds.map (lisN n), .inl rfl, by rw [List.length_map]; exact h1, fun x hx => ?_⟩, ?_⟩
      · obtain ⟨y, hy, rfl⟩ := List.mem_map.mp hx
        exact (h2 y hy).lis.1
      · show PyData.tuple ((ds.map (lisN n)).map (tupN n)) = .tuple ds
        rw [List.map_map]
        congr 1
        conv => rhs; rw [← List.map_id ds]
        exact List.map_congr_left fun y hy => (h2 y hy).lis.2
theorem canAll {ds : List PyData} (h : ∀ x ∈ ds, PyData.canLay0 x = true) : PyData.canLayAll0 ds = true := by
  induction ds with
  | nil => rfl
  | cons x ds ih =>
    show (PyData.canLay0 x && PyData.canLayAll0 ds) = true
    rw [h x List.mem_cons_self, ih fun y hy => h y (List.mem_cons_of_mem _ hy)]
    rfl
theorem depAll {ds : List PyData} {n : Nat} (h : ∀ x ∈ ds, PyData.depth x ≤ n) : PyData.depthAll ds ≤ n := by
  induction ds with
  | nil => exact Nat.zero_le _
  | cons x ds ih =>
    show max (PyData.depth x) (PyData.depthAll ds) ≤ n
    have h1 := h x List.mem_cons_self
    have h2 := ih fun y hy => h y (List.mem_cons_of_mem _ hy)
    omega
theorem dep_leaf {d : PyData} (h : flatD d = true) : PyData.depth d = 0 := by
  cases d <;> first | rfl | cases h
theorem tuD.can : ∀ {n : Nat} {d : PyData}, tuD n d → (PyData.canLay0 d = true ∧ PyData.depth d ≤ n) ∧ PyData.canLay0 (lisN n d) = true ∧ PyData.depth (lisN n d) ≤ n
  | 0, d, h => ⟨⟨h.2, by rw [dep_leaf h.1]; exact Nat.le_refl _⟩, h.2, by show PyData.depth d ≤ 0; rw [dep_leaf h.1]; exact Nat.le_refl _⟩
  | n + 1, d, h => by
    rcases h with h | ⟨ds, rfl, h1, h2⟩
    · rw [lis_leaf h.1, dep_leaf h.1]
      exact ⟨⟨h.2, Nat.zero_le _⟩, h.2, Nat.zero_le _⟩
    · refine ⟨⟨canAll fun x hx => (h2 x hx).can.1.1, ?_⟩, canAll (ds := ds.map (lisN n)) fun x hx => ?_, ?_⟩
      · show PyData.depthAll ds + 1 ≤ n + 1
        exact Nat.succ_le_succ (depAll fun x hx => (h2 x hx).can.1.2)
      · obtain ⟨y, hy, rfl⟩ := List.mem_map.mp hx
        exact (h2 y hy).can.2.1
      · show PyData.depthAll (ds.map (lisN n)) + 1 ≤ n + 1
        refine Nat.succ_le_succ (depAll fun x hx => ?_)
        obtain ⟨y, hy, rfl⟩ := List.mem_map.mp hx
        exact (h2 y hy).can.2.2
theorem shape_of {d : PyData} {n : Nat} (h1 : PyData.canLay0 d = true) (h2 : PyData.depth d ≤ n) (h3 : n ≤ 64) : SeqAt.shaped d = true := by
  unfold SeqAt.shaped
  rw [h1, decide_eq_true (by omega)]
  rfl
theorem tuD.shaped {n : Nat} {d : PyData} (h : tuD n d) (l : n ≤ 64) : SeqAt.shaped d = true := shape_of h.can.1.1 h.can.1.2 l
theorem tuD.shapedL {n : Nat} {d : PyData} (h : tuD n d) (l : n ≤ 64) : SeqAt.shaped (lisN n d) = true := shape_of h.can.2.1 h.can.2.2 l
/-! rows -/
theorem tu_names {ns : List Str} (h1 : ns.length ≤ 3001) (h : ∀ z ∈ ns, PyData.strOk z = true) : tuD 1 (namesD ns) := .inr ⟨_, rfl, by rw [List.length_map]; exact h1, fun x hx => by
  obtain ⟨z, hz, rfl⟩ := List.mem_map.mp hx
  exact ⟨rfl, h z hz⟩⟩
theorem leaf_int (i : Int) : leafD (.int i) := ⟨rfl, rfl⟩
theorem leaf_ans (a : Option Bool) : leafD (ansD a) := by cases a <;> exact ⟨rfl, rfl⟩
theorem tu_row {b : Bool} {r : Row} (h1 : r.ns.length ≤ 3001) (h : ∀ z ∈ r.ns, PyData.strOk z = true) : tuD 2 (rowD b r) := by
  cases b with
  | false =>
    refine .inr ⟨_, rfl, by show 3 ≤ 3001; decide, fun x hx => ?_⟩
    simp only [List.mem_cons, List.not_mem_nil, or_false] at hx
    rcases hx with e | e | e <;> subst e
    · exact .leaf (leaf_int _)
    · exact .leaf (leaf_int _)
    · exact tu_names h1 h
  | true =>
    refine .inr ⟨_, rfl, by show 5 ≤ 3001; decide, fun x hx => ?_⟩
    simp only [List.mem_cons, List.not_mem_nil, or_false] at hx
    rcases hx with e | e | e | e | e <;> subst e
    · exact .leaf (leaf_int _)
    · exact .leaf (leaf_int _)
    · exact .leaf (leaf_int _)
    · exact tu_names h1 h
    · exact .leaf (leaf_ans _)
/-- rows as they are drawn -/
structure RowsOk (b : Bool) (rs : List Row) : Prop where
  len : rs.length ≤ 6
  row : ∀ r ∈ rs, RowOk b r
  small : ∀ r ∈ rs, r.ns.length ≤ 5 ∧ ∀ z ∈ r.ns, PyData.strOk z = true
  asc : rs.Pairwise (fun r s => r.u < s.u)
theorem RowsOk.ses {n : Nat} {rs : List Row} (hn : n ≤ 6) (h : SesOk n rs) : RowsOk false rs := ⟨by rw [h.len]; exact hn, fun r hr => by
  obtain ⟨⟨a1, a2⟩, ⟨b1, b2, b3⟩, c, _⟩ := h.row r hr
  exact ⟨⟨b1, by omega, by omega, b3⟩, c, fun _ => ⟨a1, a2⟩⟩, fun r hr => (h.row r hr).2.2.2, h.asc⟩
theorem RowsOk.log {n : Nat} {rs : List Row} (hn : n ≤ 6) (h : LogOk n rs) : RowsOk true rs := ⟨by rw [h.len]; exact hn, fun r hr => by
  obtain ⟨⟨b1, b2, b3, b4⟩, c, _⟩ := h.row r hr
  exact ⟨⟨b1, b2, b3, b4⟩, c, fun e => nomatch e⟩, fun r hr => (h.row r hr).2.2, h.asc⟩
theorem RowsOk.nil (b : Bool) : RowsOk b [] := ⟨by decide, (fun r h => by cases h), (fun r h => by cases h), .nil⟩
def ownD (b : Bool) (rs : List Row) : PyData := .tuple (rs.map (rowD b))
theorem RowsOk.tu {b : Bool} {rs : List Row} (h : RowsOk b rs) : tuD 5 (ownD b rs) := .inr ⟨_, rfl, by rw [List.length_map]; have := h.len; omega, fun x hx => by
  obtain ⟨r, hr, rfl⟩ := List.mem_map.mp hx
  exact (tu_row (by have := (h.small r hr).1; omega) (h.small r hr).2).up (by decide)⟩
theorem RowsOk.okRs {b : Bool} {rs : List Row} (h : RowsOk b rs) : okRs rs := ⟨by have := h.len; omega, fun r hr => by
  have l := (h.row r hr).lo
  refine ⟨⟨l.1, by omega⟩, ⟨by omega, by omega⟩, ⟨by omega, by omega⟩, by have := (h.small r hr).1; omega, fun z hz => ?_⟩
  have h1 := List.all_eq_true.mp (Bool.and_eq_true_iff.mp (h.row r hr).nm.1).1 z hz
  unfold nameB at h1
  simp only [Bool.and_eq_true, decide_eq_true_eq] at h1
  have := h1.1.2
  omega⟩
theorem RowsOk.back {b : Bool} {rs : List Row} (h : RowsOk b rs) : sheetD b (sheetT b rs) = ownD b rs := sheet_back h.row h.asc
/-- the texts of the rows, as data -/
theorem RowsOk.F38 {b : Bool} {rs : List Row} (h : RowsOk b rs) : F38 b [ownD b rs] (.str (sheetT b rs)) ∧ F38 b [lisN 5 (ownD b rs)] (.str (sheetT b rs)) := by
  refine ⟨⟨_, rs, rfl, h.tu.ok, ?_, h.okRs, rfl⟩, ⟨_, rs, rfl, h.tu.lis.1, h.tu.lis.2, h.okRs, rfl⟩⟩
  have key : ∀ {n : Nat} {d : PyData}, tuD n d → tupN n d = d := by
    intro n
    induction n with
    | zero => intro d _; rfl
    | succ n ih =>
      intro d hd
      rcases hd with hd | ⟨ds, rfl, h1, h2⟩
      · exact tup_leaf hd.1
      · show PyData.tuple (ds.map (tupN n)) = .tuple ds
        congr 1
        conv => rhs; rw [← List.map_id ds]
        exact List.map_congr_left fun y hy => ih (h2 y hy)
  exact key h.tu
theorem sheetT_nil (b : Bool) : sheetT b [] = "" := by cases b <;> rfl
theorem ownD_nil (b : Bool) : ownD b [] = .tuple [] := rfl
theorem eqv_self {d : PyData} {n : Nat} (h : tuD n d) : PyData.eqv d d = true ∧ PyData.eqv (lisN n d) (lisN n d) = true := ⟨SeqAt.eqv_refl d h.can.1.1, SeqAt.eqv_refl _ h.can.2.1⟩
theorem eqv_kinds {rs ls : List Row} : PyData.eqv (ownD false rs) (ownD true ls) = (rs.isEmpty && ls.isEmpty) := by
  cases rs with
  | nil => cases ls <;> rfl
  | cons r rs =>
    cases ls with
    | nil => rfl
    | cons l ls =>
      show (PyData.eqv (rowD false r) (rowD true l) && _) = false
      have : PyData.eqv (rowD false r) (rowD true l) = false := by
        show (_ && (_ && (_ && false))) = false
        simp
      rw [this]
      rfl
theorem eqv_own0 {b : Bool} {rs : List Row} : PyData.eqv (ownD b rs) (.tuple []) = rs.isEmpty := by cases rs <;> rfl
end Sv
/-! part R1 -/
set_option Elab.async false
set_option linter.all false
set_option maxRecDepth 100000
set_option maxHeartbeats 4000000
namespace Sv
open PySem PySem.Spec PyProof.Rows L2
section
variable {X : Cx} {r : Rho} {d d1 d2 : PyData} {e c a o : Expr} {es : List Expr} {ds ds2 : List PyData} {pos : Pos} {p : Bool} {B : List Addr} {sl : List (Nat × Addr)} {b q : Addr} {fr m : Hp → Prop} {A N M : As} {R : V → Hp → Prop} {rest : List Stmt} {k k1 k2 : Nat} {P P1 P2 : PyData → Prop} {Q Q2 : List PyData → Prop}
theorem AD.swapM {σ : L2.St} {H : Hp} {n : Nat} (h : AD (q :: B) sl (BF b n (fun H => ML (q :: B) q ds H ∧ fr H)) r σ H) : AD (q :: B) sl (fun H => ML (q :: B) q ds H ∧ BF b n fr H) r σ H := h.imp fun H z => ⟨z.2.1, z.1, z.2.2⟩
theorem AD.swapB {σ : L2.St} {H : Hp} {n : Nat} (h : AD (q :: B) sl (fun H => ML (q :: B) q ds H ∧ BF b n fr H) r σ H) : AD (q :: B) sl (BF b n (fun H => ML (q :: B) q ds H ∧ fr H)) r σ H := h.imp fun H z => ⟨z.2.1, z.1, z.2.2⟩
/-- reading a list that is written, beside draws -/
theorem pz_rd (i : Nat) (hi : (i, q) ∈ sl) (hq : q ∉ B) (hf : Kp [] fr) (hd : flatD d = true) (h : PE X e (tD (r.set i (some (.list ds))) d)) : PZ X (q :: B) sl b (fun H => ML (q :: B) q ds H ∧ fr H) r e 0 (fun x => x = d) := fun n =>
  h.wkS fun σ H Q ⟨a, k⟩ => ⟨B, (a.swapM.rd i hi hq).1, (a.swapM.rd i hi hq).2, fun v H' s rv => k v H' d (Keep.of s) rfl (a.same s (bf_kp (kp_ml hf))) (flat_up rv hd)⟩
theorem pzt_rd (i : Nat) (hi : (i, q) ∈ sl) (hq : q ∉ B) (hf : Kp [] fr) (h : PT X e (tT (r.set i (some (.list ds))) p)) : PZT X (q :: B) sl b (fun H => ML (q :: B) q ds H ∧ fr H) r e 0 (fun x => x = p) := fun n =>
  h.wkS fun σ H Q ⟨a, k⟩ => ⟨B, (a.swapM.rd i hi hq).1, (a.swapM.rd i hi hq).2, fun H' s => k p H' (Keep.of s) rfl (a.same s (bf_kp (kp_ml hf)))⟩
/-- an if that is never taken -/
theorem z_ifNo {A1 : List Stmt} {n : Nat} (hc : PZT X B sl b fr r c 0 (fun x => x = false)) (hr : PSs X rest (tZ (AD B sl (BF b n fr) r) N R)) : PSs X (.If c A1 [] pos :: rest) (tZ (AD B sl (BF b n fr) r) N R) := by
  refine z_if (R1 := fun σ c H' => c = false ∧ AD B sl (BF b n fr) r σ H') (M := AD B sl (BF b n fr) r) ((hc n).wkS fun σ H Q ⟨a, k⟩ => ⟨a, fun c H' _ pc a' => k c H' ⟨pc, a'⟩⟩) ⟨fun pins s σ H Dn I z => ?_⟩ (z_nil fun σ H h => h.2) hr
  obtain ⟨⟨e, _⟩, _⟩ := z
  cases e
/-- x.extend(e) -/
theorem z_ext (i : Nat) {x : Str} {p1 p2 p3 p4 : Pos} (hi : (i, q) ∈ sl) (hq : q ∈ B) (hm : Kp [q] m) (he : PE X e (tD r (.list ds2))) (hz : ds.length + ds2.length ≤ sizeLine) (hr : PSs X rest (tZ (AD B sl (fun H => ML B q (ds ++ ds2) H ∧ m H) r) N R)) (hN : X.N[i]? = some x := by rfl) (hv : Vis X.env.scope x := by first | exact Or.inl rfl | exact Or.inr (Or.inl rfl) | exact Or.inr (Or.inr rfl)) (hd : (x == ("__debug__" : Str)) = false := by decide) (hcd : (x == ("__classdict__" : Str)) = false := by decide)
    (hbase : attributeBase (.Name x p1) "extend" X.env (eval (.Name x p1) X.env) = eval (.Name x p1) X.env := by rfl) (hst : starEach [e] X.env = (false, eval e X.env) :: starEach [] X.env := by rfl)
    (hfew : ((backTo p3 (starEach [e] X.env)).all (fun x => !x.1) && (backToKw p3 (keywordEach [] X.env)).all (fun x => x.1.isSome) && decide ([e].length + ([] : List Keyword).length + (if ([] : List Keyword).isEmpty then 0 else 1) < 30)) = true := by rfl)
    (hline : (p2.endLine == p3.line) = true := by rfl) (hpl : (backTo p3 (starEach [] X.env)).any (·.1) = false := by rfl) (hsw : swapsWith (.Call (.Attribute (.Name x p1) "extend" p2) [e] [] p3) none p4.line X.env = pure false := by rfl) :
    PSs X (.Expr (.Call (.Attribute (.Name x p1) "extend" p2) [e] [] p3) p4 :: rest) (tZ (AD B sl (fun H => ML B q ds H ∧ m H) r) N R) := by
  refine (pss_cons (ps_expr (pe_bm F.plainAttrs_list F.slot_list_extend F.type_list_extend mt_extend (pe_var hN hv hd hcd) (pa_cons he pa_nil hst) hbase hfew hline hst hpl) hsw) hr).wkS fun Dn σ H ⟨a, k, k2⟩ => ?_
  obtain ⟨D, E, sls, ⟨vs, e1, rs⟩, hm1⟩ := a
  refine ⟨.ref q, sls _ hi, .inl ⟨rfl, vs, .inl (.inl e1)⟩, B, D, E, fun v H1 s1 rv => ?_⟩
  obtain ⟨b, zs, e3, hb, rz⟩ : ∃ b zs, v = .ref b ∧ H1 b = some (.lst zs) ∧ Rps B H1 zs ds2 := by
    cases rv with
    | lst h n s => exact ⟨_, _, rfl, h, s⟩
  subst e3
  have e2 := s1 _ _ e1
  have rs1 := rs.same s1
  have D1 := D.same s1
  refine ⟨q, b, vs, zs, rfl, rfl, e2, hb, by rw [rs.length, rz.length]; exact hz, ?_⟩
  have kk : Keep [q] H1 (upd H1 q (.lst (vs ++ zs))) := fun b o hb e => by
    rw [upd_ne (fun z => hb (by simp [z]))]
    exact e
  have kB : Keep B H1 (upd H1 q (.lst (vs ++ zs))) := kk.sub fun b hb => by
    rw [List.mem_singleton] at hb
    rw [hb]; exact hq
  exact ⟨⟨D1.upd, (E.same s1).keep kB, sls, ⟨vs ++ zs, upd_same, (rs1.append rz).keep kB⟩, hm _ _ kk (hm.same s1 hm1)⟩, k, k2⟩
def lenAt (q : Addr) (H : Hp) : Nat := match H q with
  | some (.lst xs) => xs.length
  | _ => 0
theorem lenAt_of {q : Addr} {H : Hp} {xs : List V} (h : H q = some (.lst xs)) : lenAt q H = xs.length := by
  unfold lenAt
  rw [h]
def layD (ds : List PyData) : Prop := ∀ x ∈ ds, PyData.canLay0 x = true ∧ PyData.depth x ≤ 20
theorem layD.shaped {ds : List PyData} (h : layD ds) : SeqAt.shaped (.list ds) = true := shape_of (n := 21) (canAll fun x hx => (h x hx).1) (Nat.succ_le_succ (depAll fun x hx => (h x hx).2)) (by decide)
theorem eqv_nilD (ds : List PyData) : PyData.eqv (.list ds) (.list []) = ds.isEmpty := by cases ds <;> rfl
theorem Rps.dropLast {B : List Addr} {H : Hp} : ∀ {xs : List V} {ds : List PyData}, Rps B H xs ds → Rps B H xs.dropLast ds.dropLast
  | _, _, .nil => .nil
  | _, _, .cons (vs := []) r s => by
    cases s
    exact .nil
  | _, _, .cons (vs := v :: vs) r s => by
    cases s with
    | cons r2 s2 => exact .cons r (Rps.dropLast (.cons r2 s2))
/-- while x != []: x.pop() -/
theorem z_popAll (i : Nat) {x : Str} {px pl pc p1 p2 p3 p4 : Pos} (hp : PassesOwn (model X.prog X.w) X.A X.env X.xe) (hi : (i, q) ∈ sl) (hq : q ∉ B) (hm : Kp [q] m) (hl : layD ds) (hri : i < r.length) (hr : PSs X rest (tZ (AD (q :: B) sl (fun H => ML (q :: B) q [] H ∧ m H) r) N R)) (hN : X.N[i]? = some x := by rfl) (hv : Vis X.env.scope x := by first | exact Or.inl rfl | exact Or.inr (Or.inl rfl) | exact Or.inr (Or.inr rfl)) (hd : (x == ("__debug__" : Str)) = false := by decide) (hcd : (x == ("__classdict__" : Str)) = false := by decide)
    (hc : ∀ ds', layD ds' → PT X (.Compare (.Name x px) [.NotEq] [.List [] pl] pc) (tT (r.set i (some (.list ds'))) (!ds'.isEmpty)))
    (hbase : attributeBase (.Name x p1) "pop" X.env (eval (.Name x p1) X.env) = eval (.Name x p1) X.env := by rfl) (hline : (p2.endLine == p3.line) = true := by rfl) (hsw : swapsWith (.Call (.Attribute (.Name x p1) "pop" p2) [] [] p3) none p4.line X.env = pure false := by rfl) :
    PSs X (.While (.Compare (.Name x px) [.NotEq] [.List [] pl] pc) [.Expr (.Call (.Attribute (.Name x p1) "pop" p2) [] [] p3) p4] [] pos :: rest) (tZ (AD (q :: B) sl (fun H => ML (q :: B) q ds H ∧ m H) r) N R) := by
  have hm0 : Kp [] m := hm.less fun a ha => by cases ha
  have hcc : PT X (.Compare (.Name x px) [.NotEq] [.List [] pl] pc) (fun σ H Q => ∃ ds', layD ds' ∧ AD (q :: B) sl (fun H => ML (q :: B) q ds' H ∧ m H) r σ H ∧ ∀ H', AD (q :: B) sl (fun H => ML (q :: B) q ds' H ∧ m H) r σ H' → Same H H' → Q (!ds'.isEmpty) H') :=
    ⟨fun pins s σ H Q I ⟨ds', l', a, k⟩ => (hc ds' l').run pins s σ H Q I ⟨B, (a.rd i hi hq).1, (a.rd i hi hq).2, fun H' s => k H' (a.same s (kp_ml hm0)) s⟩⟩
  refine (pss_cons (ps_while hp hcc (pss_cons (ps_expr (pe_bm0 F.plainAttrs_list F.slot_list_pop F.type_list_pop mt_pop (pe_var hN hv hd hcd) hbase hline) hsw) pss_nil)) hr).wkS fun Dn σ H ⟨a, k, k2⟩ => ?_
  refine while_by (fun σ' H' => ∃ ds', layD ds' ∧ AD (q :: B) sl (fun H => ML (q :: B) q ds' H ∧ m H) r σ' H') (fun _ H' => lenAt q H') ⟨ds, hl, a⟩ (fun σ' H' ⟨ds', l', a'⟩ => ⟨ds', l', a', fun H1 a1 s1 => ?_⟩) (fun σ' H' Q Q' i ⟨ds', l', a', k'⟩ => ⟨ds', l', a', fun H1 a1 s1 => i _ _ (k' H1 a1 s1)⟩)
  cases ds' with
  | nil =>
    refine iteF ?_
    exact ⟨a1, k, k2⟩
  | cons d0 dr =>
    refine iteT ?_
    obtain ⟨D, E, sls, ⟨vs, e1, rs⟩, hm1⟩ := a1
    have e0 : lenAt q H' = vs.length := by
      obtain ⟨_, _, _, ⟨vs0, e2, rs2⟩, _⟩ := a'
      rw [lenAt_of e2, rs2.length, rs.length]
    have ne : vs ≠ [] := fun e => by rw [e] at rs; cases rs
    have hlt : vs.length - 1 < vs.length := by
      have := List.length_pos_iff.mpr ne
      omega
    refine ⟨.ref q, sls _ hi, .inl ⟨rfl, vs, .inl (.inl e1)⟩, q, vs, vs[vs.length - 1], rfl, rfl, e1, List.getElem?_eq_getElem hlt, ?_⟩
    have kk : Keep [q] H1 (upd H1 q (.lst vs.dropLast)) := fun b o hb e => by
      rw [upd_ne (fun z => hb (by simp [z]))]
      exact e
    have kB : Keep (q :: B) H1 (upd H1 q (.lst vs.dropLast)) := kk.sub fun b hb => by
      rw [List.mem_singleton] at hb
      rw [hb]; exact List.mem_cons_self
    refine ⟨⟨(d0 :: dr).dropLast, fun x hx => l' x ((List.dropLast_sublist _).subset hx), D.upd, E.keep kB, sls, ⟨vs.dropLast, upd_same, rs.dropLast.keep kB⟩, hm _ _ kk hm1⟩, ?_⟩
    rw [lenAt_of upd_same, e0, List.length_dropLast]
    exact hlt
end
end Sv
/-! part R2 -/
set_option Elab.async false
set_option linter.all false
set_option maxRecDepth 100000
set_option maxHeartbeats 4000000
namespace Sv
open PySem PySem.Spec PyProof.Rows L2
section
variable {X : Cx} {r : Rho} {d d1 d2 : PyData} {e c a o : Expr} {es : List Expr} {ds ds2 : List PyData} {pos : Pos} {p : Bool} {B : List Addr} {sl : List (Nat × Addr)} {b q : Addr} {fr m : Hp → Prop} {A N M : As} {R : V → Hp → Prop} {rest : List Stmt} {k k1 k2 : Nat} {P P1 P2 : PyData → Prop} {Q Q2 : List PyData → Prop}
/-- a type's call -/
theorem pz_callT {x : Str} {T : String} {pp : Pos} {r2 : List V → Hp → VK → Prop} (hc : CallR X (.type T) r2) (h : ∀ ds, Q ds → ∃ d, P d ∧ CaD r2 ds d) (hf : Kp [] fr) (hm : X.mg x = none) (hv : bootBuiltins x = some (.type T)) (ha : PZA X B sl b fr r (e :: es) k Q) (hg : Gl X x := by rfl) (hn : x ≠ "__name__" := by decide) (hdb : (x == ("__debug__" : Str)) = false := by decide)
    (he : starEach (e :: es) X.env = (false, eval e X.env) :: starEach es X.env := by rfl) (hpl : (backTo pos (starEach es X.env)).any (·.1) = false := by rfl) : PZ X B sl b fr r (.Call (.Name x pp) (e :: es) [] pos) k P := fun n =>
  (pe_callTy hc hg hm hv (ha n) hn hdb he hpl).wkS fun σ H QQ ⟨a, kk⟩ => ⟨a, fun vs H1 ds k1 p1 a1 rs => by
    obtain ⟨d, pd, cd⟩ := h ds p1
    exact cd B H1 vs QQ a1.1 rs fun v H2 s2 rv => kk v H2 d (k1.trans (Keep.of s2)) pd (a1.same s2 (bf_kp hf)) rv⟩
theorem cd_tupL {ds : List PyData} : CaD (fun xs H Q => ∃ p ys, xs = [V.ref p] ∧ ((SqL X.K H p ys ∧ ∀ l, H l = none → Q (.ref l) (upd H l (.tup ys))) ∨ (SqT X.K H p ys ∧ Q (.ref p) H))) [.list ds] (.tuple ds) := by
  intro B H xs Q D rs k
  obtain ⟨x, e, rx⟩ := rs.one_inv
  subst e
  obtain ⟨a, ys, e, h, n, s⟩ := rx.list_inv
  subst e
  exact ⟨a, ys, rfl, .inl ⟨.inl h, fun l hl => k _ _ (same_new hl) (Rp.tup_new hl D s)⟩⟩
theorem pz_tupL {pp : Pos} (hf : Kp [] fr) (hm : X.mg "tuple" = none) (hb : b ∈ B) (h : PZ X B sl b fr r e k fun d => ∃ ds, d = .list ds ∧ P1 (.tuple ds)) (hg : Gl X "tuple" := by rfl) (he : starEach [e] X.env = (false, eval e X.env) :: starEach [] X.env := by rfl) (hpl : (backTo pos (starEach [] X.env)).any (·.1) = false := by rfl) : PZ X B sl b fr r (.Call (.Name "tuple" pp) [e] [] pos) (k + 0) P1 :=
  pz_callT call_tuple_of (fun ds ⟨d, ds', e1, ⟨ys, e2, h2⟩, e3⟩ => by
    subst e1
    subst e2
    subst e3
    exact ⟨_, h2, cd_tupL⟩) hf hm (by decide +kernel) (pza_cons hb h (pza_D da_nil hf) he) hg (by decide) (by decide) he hpl
/-- a or c, a text -/
theorem de_orS {z : Str} {rs_ : List Expr} (ha : PE X a (tD r (.str z))) (hb : PE X (.BoolOp .Or (c :: rs_) pos) (tD r d)) (hz : z.length ≤ 100000) : PE X (.BoolOp .Or (a :: c :: rs_) pos) (tD r (if z.length = 0 then d else .str z)) := (pe_orT ha hb).wkS fun σ H Q ⟨B, D, E, k⟩ => ⟨B, D, E, fun v H1 s rv => by
  cases rv
  refine ⟨_, ⟨by rw [sizeLine_eq]; omega, rfl⟩, ?_⟩
  by_cases h : z.length = 0
  · have e : ((z.length : Int) != 0) = false := by rw [h]; rfl
    rw [if_pos h] at k
    rw [e]
    exact iteF ⟨B, D.same s, E.same s, fun v H2 s2 rv => k v H2 (s.trans s2) rv⟩
  · have e : ((z.length : Int) != 0) = true := by
      rw [bne_iff_ne]
      omega
    rw [if_neg h] at k
    rw [e]
    exact iteT (k _ H1 s (.str z))⟩
/-- a or c, a list -/
theorem de_orL {rs_ : List Expr} (ha : PE X a (tD r (.list ds))) (hb : PE X (.BoolOp .Or (c :: rs_) pos) (tD r d)) : PE X (.BoolOp .Or (a :: c :: rs_) pos) (tD r (if ds.isEmpty then d else .list ds)) := (pe_orT ha hb).wkS fun σ H Q ⟨B, D, E, k⟩ => ⟨B, D, E, fun v H1 s rv => by
  have rv0 := rv
  obtain ⟨a, xs, e, h, n, rs⟩ := rv.list_inv
  subst e
  refine ⟨_, .inl ⟨xs, .inl h, rfl⟩, ?_⟩
  cases ds with
  | nil =>
    cases rs
    exact iteF ⟨B, D.same s, E.same s, fun v H2 s2 rv => k v H2 (s.trans s2) rv⟩
  | cons d0 dr =>
    cases rs
    exact iteT (k _ H1 s rv0)⟩
end
end Sv
/-! part Z5 -/
set_option Elab.async false
set_option linter.all false
set_option maxRecDepth 100000
set_option maxHeartbeats 4000000
namespace Sv
open PySem PySem.Spec PyProof.Rows L2
section
variable {P : Program} {w : World} {K : PySem.W.Frag} {mg : Str → Option Value} {base : Heap} {C : Addr}
abbrev N70 : List Str := ["_law_told_so", "_law_due", "_law_lines", "_law_line_here"]
theorem sc70 : FnScope N70 [] (defScope (top 70)) := ⟨rfl, rfl, rfl, by decide +kernel, rfl, by decide +kernel, by decide +kernel⟩
abbrev F70 : List PyData → PyData → Prop := fun ds d => ds = [] ∧ d = .bool true
/-- the data of rows written in the text -/
theorem hand_F38 (b : Bool) (rs : List Row) (x : PyData) (t : Str) (h1 : okB 5 x = true) (h2 : tupN 5 x = .tuple (rs.map (rowD b))) (h3 : okRs rs) (h4 : sheetT b rs = t) : F38 b [x] (.str t) := ⟨x, rs, rfl, okB_ok h1, h2, h3, by rw [h4]⟩
def okRB (r : Row) : Bool := (decide (0 ≤ r.x ∧ r.x ≤ 999) && decide (0 ≤ r.y ∧ r.y ≤ 999)) && (decide (0 ≤ r.u ∧ r.u ≤ 999) && (decide (r.ns.length ≤ 10) && r.ns.all fun z => decide (z.length ≤ 10)))
theorem okRB_ok {r : Row} (h : okRB r = true) : okR r := by
  unfold okRB at h
  simp only [Bool.and_eq_true, decide_eq_true_eq, List.all_eq_true] at h
  exact ⟨h.1.1, h.1.2, h.2.1, h.2.2.1, h.2.2.2⟩
theorem okRs_of {rs : List Row} (h1 : rs.length ≤ 7) (h2 : rs.all okRB = true) : okRs rs := ⟨h1, fun r hr => okRB_ok (List.all_eq_true.mp h2 r hr)⟩
def hR1 : List Row := [⟨0, 0, 3, ["a"], none⟩, ⟨1, 1, 14, ["a", "b"], none⟩]
def hR2 : List Row := [⟨0, 2, 3, ["a"], none⟩, ⟨4, 4, 5, ["b", "key"], some true⟩, ⟨0, 5, 6, ["z"], some false⟩]
theorem hand_auth : F40 [.tuple [.tuple [.str "a", .int 0], .tuple [.str "b", .none], .tuple [.str "c", .int 12]]] (.str "a:0 b:- c:12") := by
  refine ⟨_, [("a", some 0), ("b", none), ("c", some 12)], rfl, okB_ok (by kernel_rfl), by rfl, ⟨by decide, fun p hp => ?_⟩, by rw [show authT [("a", some 0), ("b", none), ("c", some 12)] = "a:0 b:- c:12" from by kernel_rfl]⟩
  simp only [List.mem_cons, List.not_mem_nil, or_false] at hp
  rcases hp with e | e | e <;> subst e
  · exact ⟨by decide, fun i hi => by cases hi; decide⟩
  · exact ⟨by decide, fun i hi => by cases hi⟩
  · exact ⟨by decide, fun i hi => by cases hi; decide⟩
theorem hand_auth0 : F40 [.tuple []] (.str "-") := ⟨_, [], rfl, okB_ok (by kernel_rfl), rfl, ⟨by decide, fun p hp => by cases hp⟩, rfl⟩
def okSB (z : Str) : Bool := decide (z.length ≤ 3000) && PyData.strOk z
theorem okSB_ok {z : Str} (h : okSB z = true) : okS z := by
  obtain ⟨h1, h2⟩ := Bool.and_eq_true_iff.mp h
  exact ⟨of_decide_eq_true h1, h2⟩
theorem z_sl0 {X : Cx} {b : List Stmt} {B : List Addr} {sl : List (Nat × Addr)} {m : Hp → Prop} {r : Rho} {N : As} {R : V → Hp → Prop} (h : PSs X b (tZ (AD B [] m r) N R)) : PSs X b (tZ (AD B sl m r) N R) := z_pre h fun σ H a => ⟨a.1, a.2.1, (fun q hq => by cases hq), a.2.2.2⟩
/-- a for whose turns leave everything as it is -/
theorem z_each {X : Cx} {r : Rho} {ds : List PyData} {iter : Expr} {body rest : List Stmt} {pos px : Pos} {B : List Addr} {sl : List (Nat × Addr)} {m : Hp → Prop} {N : As} {R : V → Hp → Prop} (j : Nat) {x : Str} (hp : PassesOwn (model X.prog X.w) X.A X.env X.xe) (hc : X.calm = true) (hm : Kp [] m) (hi : PI X (.Name x px) iter (tI r ds)) (hgp : PG X (.Name x px) (gName j)) (hsl : sl.all (fun q => ![j].contains q.1) = true) (hrj : r.set j none = r)
    (hb : ∀ (fr : Hp → Prop), Kp B fr → ∀ d, d ∈ ds → PSs X body (tZ (AD B sl (fun H => m H ∧ fr H) (r.set j (some d))) (AD B sl (fun H => m H ∧ fr H) (r.set j (some d))) R))
    (hr : PSs X rest (tZ (AD B sl m r) N R)) (hs : ∀ x, foldedSetIterable iter X.env x = pure x := by intro _; rfl) : PSs X (.For (.Name x px) iter body [] pos :: rest) (tZ (AD B sl m r) N R) := by
  refine z_for (κ := Unit) (ws := [j]) (fun _ _ => True) (fun _ _ => m) (fun _ _ => r) (fun i _ => r.set j (some (ds.getD i .none))) () trivial hp hc (fun _ _ => hm) hi hgp (fun i _ d hd _ => ?_) hsl (fun fr hfr i _ hil _ => ?_) (fun _ _ => hr) hs
  · have e : ds.getD i .none = d := by
      simp [List.getD, hd]
    rw [e]
    exact gd_name
  · have e : ds.getD i .none ∈ ds := by
      simp [List.getD, List.getElem?_eq_getElem hil]
    refine z_imp (hb fr hfr _ e) (fun σ H h => h) (fun σ H h => ⟨(), trivial, ?_⟩) (fun v H h => h)
    have h2 := h.drop j
    rw [List.set_set, hrj] at h2
    exact h2
def okLine : PyData → Bool
  | .str z => okSB z
  | _ => false
theorem okLine_ok {d : PyData} (h : okLine d = true) : ∃ z, d = .str z ∧ okS z := by
  cases d with
  | str z => exact ⟨z, rfl, okSB_ok h⟩
  | _ => cases h
theorem ok_by_hand {f : Addr} {fd : FuncData} (F : FnP K "_law_by_hand_right" (top 70) f fd) (T : Tx mg) (G38 : Hs P w K mg base 7 "sessions_text" ["sessions"] (F38 false)) (G39 : Hs P w K mg base 7 "log_text" ["log"] (F38 true)) (G40 : Hs P w K mg base 7 "authors_text" ["authors"] F40)
    (G46 : HsX P w K mg base C 7 "sessions_in" ["text"] (F46 false)) (G47 : HsX P w K mg base C 7 "log_in" ["text"] (F46 true)) (G68 : Hs P w K mg base 7 "_law_heard" ["_law_sheet", "_law_is_row"] F68) (G67 : Hs P w K mg base 7 "_law_sheet_in" ["_law_sheet", "_law_is_row"] F67) (G54 : Hs P w K mg base 7 "_law_same" ["_law_found", "_law_due"] (F54 5)) :
    FnOk P w K mg base CX0 8 f fd [] (spF F70) := by
  refine fn_okZ F sc70 (fun ds d ⟨h, _⟩ => by rw [h]; rfl) fun cdv A outer s H E hr ds d hF B H0 => ?_
  obtain ⟨rfl, rfl⟩ := hF
  show PSs _ _ (tZ (AD B [] (Keep [] H0) [none, none, none, none]) _ _)
  have kb : Kp [] (Keep [] H0) := Kp.base fun b hb => by cases hb
  have hG : ∀ (B : List Addr) (H : Hp) q, Dom B H → Keep [] H0 H → H q = none → H0 q = none := fun B H q D k hq => by
    cases e : H0 q with
    | none => rfl
    | some o => rw [k q o (by simp) e] at hq; cases hq
  have kq : ∀ q, H0 q = none → Kp [q] (Keep [] H0) := fun q hq => Kp.base fun b hb => by
    rw [List.mem_singleton] at hb
    exact .inr (by rw [hb]; exact hq)
  have t1 : F38 false [.tuple [.tuple [.int 0, .int 3, .tuple [.str "a"]], .tuple [.int 1, .int 14, .tuple [.str "a", .str "b"]]]] (.str "0-3 a\n1-14 a,b") := hand_F38 false hR1 _ _ (by kernel_rfl) (by kernel_rfl) (okRs_of (by decide) (by kernel_rfl)) (by kernel_rfl)
  have t0 : ∀ b, F38 b [.tuple []] (.str "") := fun b => hand_F38 b [] _ _ (by kernel_rfl) (by cases b <;> rfl) (okRs_of (by decide) (by kernel_rfl)) (by cases b <;> kernel_rfl)
  have t2 : F38 true [.tuple [.tuple [.int 0, .int 2, .int 3, .tuple [.str "a"], .none], .tuple [.int 4, .int 4, .int 5, .tuple [.str "b", .str "key"], .bool true], .tuple [.int 0, .int 5, .int 6, .tuple [.str "z"], .bool false]]] (.str "0/2-3 a ?\n4-5 b,key yes\n0/5-6 z no") := hand_F38 true hR2 _ _ (by kernel_rfl) (by kernel_rfl) (okRs_of (by decide) (by kernel_rfl)) (by kernel_rfl)
  have i0 : ∀ b, F46 b [.str ""] (.tuple []) := fun b => ⟨"", rfl, by decide, by cases b <;> kernel_rfl⟩
  have i1 : F46 false [.str "2-3 z"] (.tuple [.tuple [.int 2, .int 3, .tuple [.str "z"]]]) := ⟨"2-3 z", rfl, by decide, by kernel_rfl⟩
  have i2 : F46 true [.str "0/2-3 a,b yes"] (.tuple [.tuple [.int 0, .int 2, .int 3, .tuple [.str "a", .str "b"], .bool true]]) := ⟨"0/2-3 a,b yes", rfl, by decide, by kernel_rfl⟩
  -- told, due
  refine z_new 0 (fun q => H0 q = none) (hG B) kb (df_lst (da_cons (de_call G38 t1 hr (da_cons (de_tup (da_cons (de_tup (da_cons de_int (da_cons de_int (da_cons (de_tup (da_cons de_str da_nil) (sz_ok rfl)) da_nil))) (sz_ok rfl)) (da_cons (de_tup (da_cons de_int (da_cons de_int (da_cons (de_tup (da_cons de_str (da_cons de_str da_nil)) (sz_ok rfl)) da_nil))) (sz_ok rfl)) da_nil)) (sz_ok rfl)) da_nil))
    (da_cons (de_call G38 (t0 false) hr (da_cons (de_tup da_nil (sz_ok rfl)) da_nil)) (da_cons (de_call G39 (t0 true) hr (da_cons (de_tup da_nil (sz_ok rfl)) da_nil)) da_nil))) (sz_ok rfl)) (fun q hq0 hqB => ?_) (by decide) sc70.nd
  refine z_app 0 (List.mem_singleton.mpr rfl) List.mem_cons_self (kq q hq0) (de_call G39 t2 hr (da_cons (de_tup (da_cons (de_tup (da_cons de_int (da_cons de_int (da_cons de_int (da_cons (de_tup (da_cons de_str da_nil) (sz_ok rfl)) (da_cons de_non da_nil))))) (sz_ok rfl)) (da_cons (de_tup (da_cons de_int (da_cons de_int (da_cons de_int (da_cons (de_tup (da_cons de_str (da_cons de_str da_nil)) (sz_ok rfl)) (da_cons de_bl da_nil))))) (sz_ok rfl)) (da_cons (de_tup (da_cons de_int (da_cons de_int (da_cons de_int (da_cons (de_tup (da_cons de_str da_nil) (sz_ok rfl)) (da_cons de_bl da_nil))))) (sz_ok rfl)) da_nil))) (sz_ok rfl)) da_nil)) (by rw [sizeLine_eq]; decide) ?_
  refine z_frz 0 (List.mem_singleton.mpr rfl) hqB (z_sl0 ?_)
  refine z_setD 1 kb (de_lst (da_strs rfl) (sz_ok rfl)) ?_ sc70.nd
  refine z_new 0 (fun q => H0 q = none) (hG B) kb (df_cat (sz_ok rfl) (de_var 0 rfl) (de_lst (da_cons (de_call G40 hand_auth hr (da_cons (de_tup (da_cons (de_tup (da_cons de_str (da_cons de_int da_nil)) (sz_ok rfl)) (da_cons (de_tup (da_cons de_str (da_cons de_non da_nil)) (sz_ok rfl)) (da_cons (de_tup (da_cons de_str (da_cons de_int da_nil)) (sz_ok rfl)) da_nil))) (sz_ok rfl)) da_nil))
    (da_cons (de_call G40 hand_auth0 hr (da_cons (de_tup da_nil (sz_ok rfl)) da_nil)) (da_cons (de_callN G46 (i0 false) (fun i h => nomatch h) hr (da_cons de_str da_nil)) da_nil))) (sz_ok rfl))) (fun q2 hq20 hqB2 => ?_) (by decide) sc70.nd
  refine z_app 0 (List.mem_singleton.mpr rfl) List.mem_cons_self (kq q2 hq20) (de_callN G47 (i0 true) (fun i h => nomatch h) hr (da_cons de_str da_nil)) (by rw [sizeLine_eq]; decide) ?_
  refine z_frz 0 (List.mem_singleton.mpr rfl) hqB2 (z_sl0 ?_)
  refine z_setD 1 kb (de_catL (sz_ok rfl) (de_var 1 rfl) (de_lst (da_cons de_str (da_cons de_str (da_cons (de_tup da_nil (sz_ok rfl)) (da_cons (de_tup da_nil (sz_ok rfl)) da_nil)))) (sz_ok rfl))) ?_ sc70.nd
  refine z_setD 0 kb (de_catL (sz_ok rfl) (de_var 0 rfl) (de_lst (da_cons (de_callN G46 i1 (fun i h => nomatch h) hr (da_cons de_str da_nil)) (da_cons (de_callN G47 i2 (fun i h => nomatch h) hr (da_cons de_str da_nil)) da_nil)) (sz_ok rfl))) ?_ sc70.nd
  refine z_setD 1 kb (de_catL (sz_ok rfl) (de_var 1 rfl) (de_lst (da_cons (de_tup (da_cons (de_tup (da_cons de_int (da_cons de_int (da_cons (de_tup (da_cons de_str da_nil) (sz_ok rfl)) da_nil))) (sz_ok rfl)) da_nil) (sz_ok rfl)) (da_cons (de_tup (da_cons (de_tup (da_cons de_int (da_cons de_int (da_cons de_int (da_cons (de_tup (da_cons de_str (da_cons de_str da_nil)) (sz_ok rfl)) (da_cons de_bl da_nil))))) (sz_ok rfl)) da_nil) (sz_ok rfl)) da_nil)) (sz_ok rfl))) ?_ sc70.nd
  -- the lines of sessions
  refine z_setD 2 kb (de_lst (da_strs rfl) (sz_ok rfl)) ?_ sc70.nd
  refine z_setD 2 kb (de_catL (sz_ok rfl) (de_var 2 rfl) (de_lst (da_strs rfl) (sz_ok rfl))) ?_ sc70.nd
  refine z_setD 2 kb (de_catL (sz_ok rfl) (de_var 2 rfl) (de_lst (da_strs rfl) (sz_ok rfl))) ?_ sc70.nd
  refine z_setD 2 kb (de_catL (sz_ok rfl) (de_var 2 rfl) (de_lst (da_strs rfl) (sz_ok rfl))) ?_ sc70.nd
  refine z_setD 2 kb (de_catL (sz_ok rfl) (de_var 2 rfl) (de_lst (da_strs rfl) (sz_ok rfl))) ?_ sc70.nd
  refine z_each 3 PassesOwn.never rfl kb (di_list (de_var 2 rfl)) (pg_name sc70.nd rfl (Or.inl rfl)) rfl rfl (fun fr hfr d hd => ?_) ?_
  · obtain ⟨z, e, hz⟩ := okLine_ok (d := d) (List.all_eq_true.mp (show List.all _ okLine = true by kernel_rfl) d hd)
    subst e
    exact z_ifR (p := false) (kb.and (hfr.less fun b hb => by cases hb)) (dt_not (p := true) (dt_val (de_call G54 ⟨sheetD false z, rfl, okD_up (by decide) (okD_sheet hz.1), rfl⟩ hr (da_cons (de_call G68 ⟨z, false, rfl, hz.1, rfl⟩ hr (da_cons (de_var 3 rfl) (da_cons de_bl da_nil))) (da_cons (de_call G67 ⟨z, false, rfl, hz, rfl⟩ hr (da_cons (de_var 3 rfl) (da_cons de_bl da_nil))) da_nil))))) (fun h => nomatch h) (fun _ => z_nil fun _ _ h => h)
  -- the lines of logs
  refine z_setD 2 kb (de_lst (da_strs rfl) (sz_ok rfl)) ?_ sc70.nd
  refine z_setD 2 kb (de_catL (sz_ok rfl) (de_var 2 rfl) (de_lst (da_strs rfl) (sz_ok rfl))) ?_ sc70.nd
  refine z_setD 2 kb (de_catL (sz_ok rfl) (de_var 2 rfl) (de_lst (da_strs rfl) (sz_ok rfl))) ?_ sc70.nd
  refine z_setD 2 kb (de_catL (sz_ok rfl) (de_var 2 rfl) (de_lst (da_strs rfl) (sz_ok rfl))) ?_ sc70.nd
  refine z_each 3 PassesOwn.never rfl kb (di_list (de_var 2 rfl)) (pg_name sc70.nd rfl (Or.inl rfl)) rfl rfl (fun fr hfr d hd => ?_) ?_
  · obtain ⟨z, e, hz⟩ := okLine_ok (d := d) (List.all_eq_true.mp (show List.all _ okLine = true by kernel_rfl) d hd)
    subst e
    exact z_ifR (p := false) (kb.and (hfr.less fun b hb => by cases hb)) (dt_not (p := true) (dt_val (de_call G54 ⟨sheetD true z, rfl, okD_up (by decide) (okD_sheet hz.1), rfl⟩ hr (da_cons (de_call G68 ⟨z, true, rfl, hz.1, rfl⟩ hr (da_cons (de_var 3 rfl) (da_cons de_bl da_nil))) (da_cons (de_call G67 ⟨z, true, rfl, hz, rfl⟩ hr (da_cons (de_var 3 rfl) (da_cons de_bl da_nil))) da_nil))))) (fun h => nomatch h) (fun _ => z_nil fun _ _ h => h)
  refine z_ret (z_D (de_call G54 ⟨_, rfl, okB_ok (by kernel_rfl), rfl⟩ hr (da_cons (de_var 0 rfl) (da_cons (de_var 1 rfl) da_nil))) kb) fun σ v H' q => ⟨q.1.2.2.2, q.2⟩
end
end Sv
/-! part R3 -/
set_option Elab.async false
set_option linter.all false
set_option maxRecDepth 100000
set_option maxHeartbeats 8000000
namespace Sv
open PySem PySem.Spec PyProof.Rows L2 TL
theorem fuelA {X : Cx} {r : Rho} {B : List Addr} {sl : List (Nat × Addr)} {b q : Addr} {fr : Hp → Prop} {ds : List PyData} {n m : Nat} {σ : L2.St} {H : Hp} (h : AD (q :: B) sl (fun H => ML (q :: B) q ds H ∧ BF b n fr H) r σ H) (l : m ≤ n) : AD (q :: B) sl (fun H => ML (q :: B) q ds H ∧ BF b m fr H) r σ H := h.imp fun H z => ⟨z.1, z.2.1.less l, z.2.2⟩
section
variable {P : Program} {w : World} {K : PySem.W.Frag} {mg : Str → Option Value} {base : Heap}
abbrev N71 : List Str := ["_law_box_here", "_law_shelf", "_law_lap", "_law_rows", "_law_log_so", "_law_own", "_law_sheet", "_law_is_row", "_law_told_so", "_law_turn", "_law_pairs_so", "_law_bits", "_law_due", "_law_row", "_law_k", "_law_nr_so"]
theorem sc71 : FnScope N71 ["_law_box_here"] (defScope (top 71)) := ⟨rfl, rfl, rfl, by decide +kernel, rfl, by decide +kernel, by decide +kernel⟩
theorem pool4 : okPool ["a", "b", "key", "zzzzzzzz"] := ⟨⟨by decide, by decide⟩, by decide +kernel⟩
def shelfD (b : Bool) (R : List Row) : List PyData := (R.map (rowD b)).map (lisN 4)
theorem RowsOk.shelf {b : Bool} {R : List Row} (h : RowsOk b R) : layD (shelfD b R) := fun x hx => by
  obtain ⟨y, hy, rfl⟩ := List.mem_map.mp hx
  obtain ⟨r, hr, rfl⟩ := List.mem_map.mp hy
  have q := ((tu_row (b := b) (by have := (h.small r hr).1; omega) (h.small r hr).2).up (show 2 ≤ 4 by decide)).can.2
  exact ⟨q.1, Nat.le_trans q.2 (by decide)⟩
theorem ansT_small : ∀ a : Option Bool, (tl (ansT a)).all (fun c => decide (c < 0x110000)) = true
  | none => by decide +kernel
  | some true => by decide +kernel
  | some false => by decide +kernel
theorem row_small {b : Bool} {r : Row} (h : RowOk b r) : ∀ c ∈ tl (rowT b r), c < 0x110000 := fun c hc => by
  have s2 : ∀ c ∈ tl (Txt.join "," r.ns), c < 0x110000 := fun c hc => by
    rcases join_sign h.nm.1 c hc with e | e <;> omega
  have hs : ∀ c ∈ tl (spanT b r), c < 0x110000 := fun c hc => by have := span_sign h c hc; omega
  have sp : tl (" " : Str) = [32] := by decide +kernel
  have blank : ∀ c ∈ tl (" " : Str), c < 0x110000 := fun c hc => by rw [sp, List.mem_singleton] at hc; omega
  cases b with
  | false =>
    have e1 : rowT false r = spanT false r ++ " " ++ Txt.join "," r.ns := rfl
    rw [e1, tl_append, tl_append] at hc
    rcases List.mem_append.mp hc with q | q
    · rcases List.mem_append.mp q with q | q
      · exact hs c q
      · exact blank c q
    · exact s2 c q
  | true =>
    have e1 : rowT true r = spanT true r ++ " " ++ Txt.join "," r.ns ++ " " ++ ansT r.a := rfl
    rw [e1, tl_append, tl_append, tl_append, tl_append] at hc
    rcases List.mem_append.mp hc with q | q
    · rcases List.mem_append.mp q with q | q
      · rcases List.mem_append.mp q with q | q
        · rcases List.mem_append.mp q with q | q
          · exact hs c q
          · exact blank c q
        · exact s2 c q
      · exact blank c q
    · exact of_decide_eq_true (List.all_eq_true.mp (ansT_small r.a) c q)
theorem RowsOk.strOk {b : Bool} {R : List Row} (h : RowsOk b R) : PyData.strOk (sheetT b R) = true := strOk_iff.mpr fun c hc => by
  unfold sheetT at hc
  rw [TL.join_eq] at hc
  rcases join_mem _ _ c hc with q | ⟨p, hp, q⟩
  · rw [show tl ("\n" : Str) = [10] by decide +kernel, List.mem_singleton] at q
    omega
  · obtain ⟨r, hr, rfl⟩ := List.mem_map.mp hp
    exact row_small (h.row r hr) c q
theorem lis_own (b : Bool) (R : List Row) : lisN 5 (ownD b R) = .list (shelfD b R) := rfl
theorem z_setLc {X : Cx} {r : Rho} {d : PyData} {elt tg iter : Expr} {ifs : List Expr} {scope : Scope} {pos spos : Pos} {B : List Addr} {sl : List (Nat × Addr)} {m : Hp → Prop} {N : As} {R : V → Hp → Prop} {rest : List Stmt} (i : Nat) {y : Str} {py : Pos} (he : LcOk X elt tg iter ifs scope r d) (hm : Kp [] m) (hr : PSs X rest (tZ (AD B sl m (r.set i (some d))) N R)) (hc : X.calm = true) (hN : X.N.Nodup) (hsl : sl.all (fun q => !decide (q.1 = i)) = true := by rfl) (hy : X.N[i]? = some y := by rfl) (hyl : X.env.scope.names.lookup y = some .local := by rfl)
    (hsw : swapsWith (.ListComp elt [⟨tg, iter, ifs, 0⟩] scope pos) (some (.Name y py)) spos.line X.env = pure true := by exact sw_true rfl rfl rfl (by decide +kernel)) : PSs X (.Assign [.Name y py] (.ListComp elt [⟨tg, iter, ifs, 0⟩] scope pos) spos :: rest) (tZ (AD B sl m r) N R) := by
  obtain ⟨wi, g, tt, te, own, h1, h2, h3, h4, h5, h6, h7⟩ := he.ex
  exact (pss_cons (ps_setLc hc hN hy hyl hsw h1 h2 h3 h4 h5 h6) hr).wkS fun Dn σ H ⟨a, k, k2⟩ => by
    have z := h7 σ H (fun x H1 => gName i x σ H1 fun σ' H' => tZ (AD B sl m (r.set i (some d))) N R Dn σ' H') ⟨B, a.1, a.2.1, fun v H1 s1 rv => ⟨(a.same s1 hm).set rv hsl, k, k2⟩⟩
    exact z
theorem okD_two {n : Nat} {x y : PyData} (hx : okD n x) (hy : okD n y) : okD (n + 1) (.list [x, y]) := okD_lst (by show 2 ≤ 3001; decide) fun z hz => by
  simp only [List.mem_cons, List.not_mem_nil, or_false] at hz
  rcases hz with e | e <;> subst e
  · exact hx
  · exact hy
def F71 : List PyData → PyData → Prop := fun _ d => d = .bool true
/-- what stands in the two rows of a lap -/
theorem own_at {rs ls : List Row} (hR : RowsOk false rs) (hL : RowsOk true ls) {j : Nat} (hj : j < 2) : ∃ (b : Bool) (R : List Row), [ownD false rs, ownD true ls][j]? = some (ownD b R) ∧ RowsOk b R ∧ (if PyData.eqv (ownD b R) (ownD true ls) = true then PyData.bool (!PyData.eqv (ownD b R) (.tuple [])) else .bool false) = .bool b := by
  match j, hj with
  | 0, _ =>
    refine ⟨false, rs, rfl, hR, ?_⟩
    rw [eqv_kinds, eqv_own0]
    cases rs <;> cases ls <;> rfl
  | 1, _ =>
    cases ls with
    | nil => exact ⟨false, [], rfl, RowsOk.nil _, rfl⟩
    | cons l ls =>
      refine ⟨true, l :: ls, rfl, hL, ?_⟩
      rw [(eqv_self hL.tu).1, eqv_own0]
      rfl
def okP2 (p : Str × Option Int) : Prop := okP p ∧ PyData.strOk p.1 = true
theorem pairs_of {es : List PyData} (h : ∀ e ∈ es, ∃ p, e = autD p ∧ okP2 p) : ∃ ps : List (Str × Option Int), es = ps.map autD ∧ ∀ p ∈ ps, okP2 p := by
  induction es with
  | nil => exact ⟨[], rfl, fun p hp => by cases hp⟩
  | cons e es ih =>
    obtain ⟨p, rfl, hp⟩ := h e List.mem_cons_self
    obtain ⟨ps, h1, h2⟩ := ih fun e he => h e (List.mem_cons_of_mem _ he)
    refine ⟨p :: ps, by rw [h1]; rfl, fun z hz => ?_⟩
    rcases List.mem_cons.mp hz with q | q
    · rw [q]; exact hp
    · exact h2 z q
theorem pair_at {d1 d2 : PyData} {lo hi : Option Int} (h : PyData.tuple [d1, d2] ∈ enumD 0 (cutD [.str "a", .str "b", .str "key"] lo hi)) : ∃ (k : Int) (z : Str), d1 = .int k ∧ d2 = .str z ∧ 0 ≤ k ∧ k ≤ 2 ∧ z.length ≤ 10 ∧ PyData.strOk z = true := by
  obtain ⟨j, hj⟩ := List.mem_iff_getElem?.mp h
  rw [enumD_get] at hj
  obtain ⟨d', h1, h2⟩ := Option.map_eq_some_iff.mp hj
  have hlt : j < (cutD [PyData.str "a", .str "b", .str "key"] lo hi).length := (List.getElem?_eq_some_iff.mp h1).1
  have hl : (cutD [PyData.str "a", .str "b", .str "key"] lo hi).length ≤ 3 := by
    unfold cutD
    rw [List.length_take, List.length_drop]
    exact Nat.le_trans (Nat.min_le_right _ _) (Nat.sub_le _ _)
  have hm : d' ∈ ([PyData.str "a", .str "b", .str "key"] : List PyData) := List.mem_of_mem_drop (List.mem_of_mem_take (List.mem_of_getElem? h1))
  have e := PyData.tuple.inj h2
  have e1 := (List.cons.inj e).1
  have e2 := (List.cons.inj (List.cons.inj e).2).1
  simp only [List.mem_cons, List.not_mem_nil, or_false] at hm
  rcases hm with m | m | m <;> subst m <;> exact ⟨_, _, e1.symm, e2.symm, by omega, by omega, by decide, by decide +kernel⟩
theorem tu_self : ∀ {n : Nat} {d : PyData}, tuD n d → tupN n d = d
  | 0, _, _ => rfl
  | n + 1, d, hd => by
    rcases hd with hd | ⟨ds, rfl, h1, h2⟩
    · exact tup_leaf hd.1
    · show PyData.tuple (ds.map (tupN n)) = .tuple ds
      congr 1
      conv => rhs; rw [← List.map_id ds]
      exact List.map_congr_left fun y hy => tu_self (h2 y hy)
theorem pairs_tu {ps : List (Str × Option Int)} (hl : ps.length ≤ 3001) (h : ∀ p ∈ ps, okP2 p) : tuD 5 (.tuple (ps.map autD)) := .inr ⟨_, rfl, by rw [List.length_map]; exact hl, fun x hx => by
  obtain ⟨p, hp, rfl⟩ := List.mem_map.mp hx
  refine .inr ⟨_, rfl, by show 2 ≤ 3001; decide, fun y hy => ?_⟩
  simp only [List.mem_cons, List.not_mem_nil, or_false] at hy
  rcases hy with e | e <;> subst e
  · exact .leaf ⟨rfl, (h p hp).2⟩
  · obtain ⟨z, o⟩ := p
    cases o <;> exact .leaf ⟨rfl, rfl⟩⟩
theorem auth_len {ps : List (Str × Option Int)} (h : ∀ p ∈ ps, okP p) (hl : ps.length ≤ 3) : (Txt.join " " (ps.map autT)).length ≤ 100000 := by
  refine Nat.le_trans (join_len (L := 30) fun z hz => ?_) ?_
  · obtain ⟨p, hp, e⟩ := List.mem_map.mp hz
    subst e
    exact autT_len (h p hp)
  · rw [List.length_map, show (" " : Str).length = 1 by rfl]
    omega
theorem auth_eq (ps : List (Str × Option Int)) : (if (Txt.join " " (ps.map autT)).length = 0 then PyData.str "-" else .str (Txt.join " " (ps.map autT))) = .str (authT ps) := by
  unfold authT joinedS
  cases ps with
  | nil =>
    rw [if_pos (by rw [TL.join_eq]; rfl)]
    rfl
  | cons p ps =>
    have hne : (p :: ps).map autT ≠ [] := by simp
    rw [if_neg hne, if_neg]
    rw [TL.join_eq, List.map_cons, len_join_cons, List.map_cons, List.sum_cons]
    have : 0 < (autT p).length := by
      unfold autT
      rw [Str.length_append, Str.length_append, show (":" : Str).length = 1 by rfl]
      omega
    omega
theorem ok_right {f : Addr} {fd : FuncData} (F : FnP K "_law_right" (top 71) f fd) (T : Tx mg) (G70 : Hs P w K mg base 8 "_law_by_hand_right" [] F70) (G50 : Has P w K mg base CX0 8 "_law_take" ["_law_box_here", "_law_below"] (spB P50 F50 1)) (G52 : Has P w K mg base CX0 8 "_law_of" ["_law_box_here", "_law_some"] (spB P52 F52 1)) (G55 : Has P w K mg base CX0 8 "_law_sessions" ["_law_box_here", "_law_size_all", "_law_pool_so"] (spB P55 F55 50))
    (G60 : Has P w K mg base CX0 8 "_law_log" ["_law_box_here", "_law_size_all", "_law_rule_so", "_law_odd"] (spB P60 F60 90)) (G61 : Has P w K mg base CX0 8 "_law_rule" ["_law_box_here"] (spB (fun ds => ds = []) F61 1)) (G63 : Has P w K mg base CX0 8 "_law_spoilt_by" ["_law_box_here", "_law_sheet"] (spB P63 F63 4)) (G69 : Hs P w K mg base 8 "_law_line" ["_law_row"] F69) (G53 : Hs P w K mg base 8 "_law_lists" ["_law_matter"] (F53 5)) (G54 : Hs P w K mg base 8 "_law_same" ["_law_found", "_law_due"] (F54 7))
    (G68 : Hs P w K mg base 8 "_law_heard" ["_law_sheet", "_law_is_row"] F68) (G67 : Hs P w K mg base 8 "_law_sheet_in" ["_law_sheet", "_law_is_row"] F67) (G38 : HasKw P w K mg base CX0 8 "sessions_text" "sessions" (spF (F38 false))) (G39 : HasKw P w K mg base CX0 8 "log_text" "log" (spF (F38 true))) (G40 : HasKw P w K mg base CX0 8 "authors_text" "authors" (spF F40)) : FnOk P w K mg base CX0 9 f fd ["_law_box_here"] (spB (fun ds => ds = []) F71 2000) := by
  refine fn_okB F sc71 (fun ds h => by rw [h]; rfl) fun cdv A outer s H E hr ds hp B b n H0 hb => ?_
  subst hp
  show PSs _ _ (tZ (AD B [(0, b)] _ [none, none, none, none, none, none, none, none, none, none, none, none, none, none, none, none]) _ _)
  have kb : Kp [b] (Keep [b] H0) := Kp.base fun a ha => .inl ha
  have k0 : Kp [] (Keep [b] H0) := kb.less fun a ha => by cases ha
  refine z_ifR (p := false) (bf_kp k0) (dt_not (p := true) (dt_val (de_call0 G70 ⟨rfl, rfl⟩ hr))) (fun h => nomatch h) (fun _ => ?_)
  refine z_new 1 (fun q => H0 q = none) (fun H q D k hq => ?_) (bf_kp k0) (df_lst da_nil (sz_ok rfl)) (fun q hq0 hqB => ?_) (Nat.le_of_ble_eq_true rfl) sc71.nd
  · cases e : H0 q with
    | none => rfl
    | some o =>
      by_cases z : q = b
      · subst z
        exact absurd hq (D _ hb)
      · rw [k.2 q o (by simp [z]) e] at hq; cases hq
  have nqb : q ≠ b := fun e => hqB (e ▸ hb)
  have hbB : b ∈ q :: B := List.mem_cons_of_mem _ hb
  have hmb : ((0 : Nat), b) ∈ [((1 : Nat), q), (0, b)] := List.mem_cons_of_mem _ (List.mem_singleton.mpr rfl)
  have hmq : ((1 : Nat), q) ∈ [((1 : Nat), q), (0, b)] := List.mem_cons_self
  have kml : ∀ (ds : List PyData), Kp [b] (ML (q :: B) q ds) := fun ds => Kp.ml (by simp [nqb]) fun a ha => by rw [List.mem_singleton] at ha; rw [ha]; exact hbB
  refine z_pre (A := AD (q :: B) [(1, q), (0, b)] (fun H => ML (q :: B) q [] H ∧ BF b (n + 170 * (10 - 0)) (Keep [b] H0) H) _) ?_ fun σ H h => h.imp fun H z => ⟨z.1, z.2.1.less (by omega), z.2.2⟩
  refine z_for (κ := List PyData) (ws := [2]) (fun i a => layD a) (fun i a H => ML (q :: B) q a H ∧ BF b (n + 170 * (10 - i)) (Keep [b] H0) H)
    (fun i a => [none, none, none, none, none, none, none, none, none, none, none, none, none, none, none, none]) (fun i a => [none, none, some (.int (i : Nat)), none, none, none, none, none, none, none, none, none, none, none, none, none]) [] (fun x hx => by cases hx) PassesOwn.never rfl
    (fun i a => kp_ml (bf_kp k0)) (di_range (n := 10) (by omega) T.range de_int) (pg_name (i := 2) sc71.nd rfl (Or.inl rfl)) (fun i a d hd _ => ?_) rfl (fun fr hfr i a hi hC => ?_) (fun a hC => ?_)
  · obtain ⟨_, e⟩ := rangeD_get hd
    subst e
    exact gd_name
  · rw [rangeD_len] at hi
    have kf : Kp [b] fr := hfr.less fun a ha => by rw [List.mem_singleton] at ha; rw [ha]; exact hbB
    have kf1 : Kp [b] (fun H => Keep [b] H0 H ∧ fr H) := kb.and kf
    have kq : Kp [b] (fun H => ML (q :: B) q a H ∧ (Keep [b] H0 H ∧ fr H)) := Kp.and (kml a) kf1
    have kq0 := kq.less (G := []) fun a ha => by cases ha
    have kfq : Kp [q] (fun H => Keep [b] H0 H ∧ fr H) := Kp.and (Kp.base fun a ha => by rw [List.mem_singleton] at ha; exact .inr (by rw [ha]; exact hq0)) (hfr.less fun a ha => by rw [List.mem_singleton] at ha; rw [ha]; exact List.mem_cons_self)
    generalize hN : n + 170 * (10 - (i + 1)) = N
    have nx : n + 170 * (10 - i) = N + 170 := by omega
    refine z_pre (A := AD (q :: B) [(1, q), (0, b)] (BF b ((N + 119) + 51) (fun H => ML (q :: B) q a H ∧ (Keep [b] H0 H ∧ fr H))) _) ?_ fun σ H h => h.imp fun H z => ⟨by have z1 := z.1.2.1; rw [nx] at z1; exact z1, z.1.1, z.1.2.2, z.2⟩
    refine z_setP 3 (k := 51) (n := N + 119) (P := fun d => ∃ rs : List Row, RowsOk false rs ∧ d = ownD false rs) (pz_imp (k1 := 50 + (1 + 0)) (pz_call G55 hr hbB hmb kq (pza_cons hbB (pz_call G50 hr hbB hmb kq (pza_D (da_cons de_int da_nil) kq0) (fun ds hd => ⟨_, hd, by decide, by decide⟩)) (pza_D (da_cons (de_lst (da_strs rfl) (sz_ok rfl)) da_nil) kq0)) (fun ds hd => ?_)) (by decide) (fun d h => ?_)) (fun d3 hd3 => ?_) sc71.nd
    · obtain ⟨d1, t1, rfl, ⟨ds1, rfl, m1, j1, e1, rfl, h0, h1⟩, e2⟩ := hd
      subst e2
      cases e1
      exact ⟨j1.toNat, ["a", "b", "key", "zzzzzzzz"], by rw [Int.toNat_of_nonneg h0], by omega, pool4⟩
    · obtain ⟨ds, ⟨d1, t1, rfl, ⟨ds1, rfl, m1, j1, e1, rfl, h0, h1⟩, e2⟩, sz, l, rs, e3, h3, h4⟩ := h
      cases e1
      have e5 : j1 = (sz : Int) := PyData.int.inj (List.cons.inj e3).1
      exact ⟨rs, RowsOk.ses (by omega) h3, h4⟩
    obtain ⟨rs, hR, rfl⟩ := hd3
    refine z_pre (A := AD (q :: B) [(1, q), (0, b)] (BF b ((N + 27) + 92) (fun H => ML (q :: B) q a H ∧ (Keep [b] H0 H ∧ fr H))) _) ?_ fun σ H h => h
    refine z_setP 4 (k := 92) (n := N + 27) (P := fun d => ∃ ls : List Row, RowsOk true ls ∧ d = ownD true ls) (pz_imp (k1 := 90 + (1 + ((1 + 0) + 0))) (pz_call G60 hr hbB hmb kq (pza_cons hbB (pz_call G50 hr hbB hmb kq (pza_D (da_cons de_int da_nil) kq0) (fun ds hd => ⟨_, hd, by decide, by decide⟩)) (pza_cons hbB (pz_call G61 hr hbB hmb kq (pza_D da_nil kq0) (fun ds hd => hd)) (pza_D (da_cons de_bl da_nil) kq0))) (fun ds hd => ?_)) (by decide) (fun d h => ?_)) (fun d4 hd4 => ?_) sc71.nd
    · obtain ⟨d1, t1, rfl, ⟨ds1, rfl, m1, j1, e1, rfl, h0, h1⟩, d2, t2, rfl, ⟨ds2, _, h2⟩, e2⟩ := hd
      subst e2
      cases e1
      have h3 : ∃ rule : Str, d2 = .str rule ∧ rule ≠ "lock" := by
        unfold F61 at h2
        simp only [List.mem_cons, List.not_mem_nil, or_false] at h2
        rcases h2 with e | e | e | e | e | e <;> subst e <;> exact ⟨_, rfl, by decide⟩
      obtain ⟨rule, rfl, h3⟩ := h3
      exact ⟨j1.toNat, rule, by rw [Int.toNat_of_nonneg h0], by omega, h3⟩
    · obtain ⟨ds, ⟨d1, t1, rfl, ⟨ds1, rfl, m1, j1, e1, rfl, h0, h1⟩, e2⟩, sz, l, k, rs, e3, h3, h4⟩ := h
      cases e1
      have e5 : j1 = (sz : Int) := PyData.int.inj (List.cons.inj e3).1
      exact ⟨rs, RowsOk.log (by omega) h3, h4⟩
    obtain ⟨ls, hL, rfl⟩ := hd4
    refine z_pre (A := AD (q :: B) [(1, q), (0, b)] (fun H => ML (q :: B) q a H ∧ BF b ((N + 3) + 8 * (2 - 0)) (fun H => Keep [b] H0 H ∧ fr H) H) _) ?_ fun σ H h => h.imp fun H z => ⟨z.2.1, z.1.less (by omega), z.2.2⟩
    refine z_for (κ := List PyData) (ws := [5]) (fun j a => layD a) (fun j a H => ML (q :: B) q a H ∧ BF b ((N + 3) + 8 * (2 - j)) (fun H => Keep [b] H0 H ∧ fr H) H)
      (fun j a => [none, none, some (.int (i : Nat)), some (ownD false rs), some (ownD true ls), none, none, none, none, none, none, none, none, none, none, none]) (fun j a => [none, none, some (.int (i : Nat)), some (ownD false rs), some (ownD true ls), [ownD false rs, ownD true ls][j]?, none, none, none, none, none, none, none, none, none, none]) a hC PassesOwn.never rfl
      (fun i a => kp_ml (bf_kp (kf1.less fun a ha => by cases ha))) (di_tup (de_tup (da_cons (de_var 3 rfl) (da_cons (de_var 4 rfl) da_nil)) (sz_ok rfl))) (pg_name (i := 5) sc71.nd rfl (Or.inl rfl)) (fun j a d hd _ => ?_) rfl (fun fr2 hfr2 j a2 hj hC2 => ?_) (fun a2 hC2 => ?_)
    · rw [hd]
      exact gd_name
    · have hj' : j < 2 := hj
      obtain ⟨b', R, e5, hO, hand⟩ := own_at hR hL hj'
      rw [e5]
      have kf2 : Kp [b] fr2 := hfr2.less fun a ha => by rw [List.mem_singleton] at ha; rw [ha]; exact hbB
      have kf12 : Kp [b] (fun H => (Keep [b] H0 H ∧ fr H) ∧ fr2 H) := kf1.and kf2
      have kfq2 : Kp [q] (fun H => (Keep [b] H0 H ∧ fr H) ∧ fr2 H) := kfq.and (hfr2.less fun a ha => by rw [List.mem_singleton] at ha; rw [ha]; exact List.mem_cons_self)
      have kq2 : ∀ ds, Kp [b] (fun H => ML (q :: B) q ds H ∧ ((Keep [b] H0 H ∧ fr H) ∧ fr2 H)) := fun ds => (kml ds).and kf12
      have kq20 : ∀ ds, Kp [] (fun H => ML (q :: B) q ds H ∧ ((Keep [b] H0 H ∧ fr H) ∧ fr2 H)) := fun ds => (kq2 ds).less fun a ha => by cases ha
      have k12 : Kp [] (fun H => (Keep [b] H0 H ∧ fr H) ∧ fr2 H) := kf12.less fun a ha => by cases ha
      generalize hM : (N + 3) + 8 * (2 - (j + 1)) = M
      have nx2 : (N + 3) + 8 * (2 - j) = M + 8 := by omega
      have shO := hO.tu.shaped (by decide)
      have shL : SeqAt.shaped (lisN 5 (ownD b' R)) = true := hO.tu.shapedL (by decide)
      have e9 : (!PyData.eqv (lisN 5 (ownD b' R)) (lisN 5 (ownD b' R))) = false := by rw [(eqv_self hO.tu).2]; rfl
      have tlen := sheetT_len (b := b') hO.okRs
      have hlen6 := hO.len
      have f38 : ∀ {c : Bool} {x : List PyData} {d : PyData}, F38 b' x d → b' = c → F38 c x d := fun h e => e ▸ h
      refine z_pre (A := AD (q :: B) [(1, q), (0, b)] (BF b ((M + 8) + 0) (fun H => ML (q :: B) q a2 H ∧ ((Keep [b] H0 H ∧ fr H) ∧ fr2 H))) _) ?_ fun σ H h => h.imp fun H z => ⟨by have z1 := z.1.2.1; rw [nx2] at z1; exact z1, z.1.1, z.1.2.2, z.2⟩
      refine z_parP 6 7 (n := M + 8) (k := 0) (P2 := fun d1 d2 => d1 = .str (sheetT b' R) ∧ d2 = .bool b') hbB rfl (pza_D (da_cons (de_join (ys := R.map (rowT b')) (.inl rfl) (rows_fit hO.okRs) de_str (de_of (LcOk.pe (lk_N (N0 := N71) (sc0 := defScope (top 71)) 13 (ds := R.map (rowD b')) (f := fun d => .str (rowOf b' d)) sc71.nd (by decide +kernel) ?_ (di_tup (de_var 5 rfl)) (fun d hd s H C cl fp => ?_)) rfl sc71.nd) (by rw [rows_map]))) (da_cons (de_of (de_and (de_cmp (op_eqD (room_units hr)) (od_eqD shO (hL.tu.shaped (by decide))) (de_var 5 rfl) (de_var 4 rfl) (nomark _)) (fun _ => de_one (de_cmp (op_neD (room_units hr)) (od_neD shO (by rfl)) (de_var 5 rfl) (de_tup da_nil (sz_ok rfl)) (nomark _)))) hand) da_nil)) (kq20 a2)) (fun ds hd => ⟨_, _, hd, rfl, rfl⟩) (fun d6 d7 h67 => ?_) sc71.nd
      · rw [List.length_map, sizeLine_eq]
        omega
      · obtain ⟨r, h1, e⟩ := List.mem_map.mp hd
        subst e
        rw [rowOf_ok]
        exact de_call G69 ⟨b', r, rfl, hO.okRs.2 r h1, rfl⟩ hr (da_cons (de_var 13 rfl) da_nil)
      obtain ⟨rfl, rfl⟩ := h67
      refine z_pre (A := AD (q :: B) [(1, q), (0, b)] (fun H => ML (q :: B) q a2 H ∧ BF b (M + 8) (fun H => (Keep [b] H0 H ∧ fr H) ∧ fr2 H) H) _) ?_ fun σ H h => h.swapM
      have kbfq : Kp [q] (BF b (M + 8) (fun H => (Keep [b] H0 H ∧ fr H) ∧ fr2 H)) := Kp.and (Kp.bx (by simp [Ne.symm nqb])) kfq2
      refine z_popAll 1 PassesOwn.never hmq hqB kbfq hC2 (Nat.le_of_ble_eq_true rfl) ?_ (hc := fun ds' l' => dt_of (dt_cmp (op_neD (room_units hr)) (od_neD l'.shaped nil_list) (de_var 1 rfl) (de_lst da_nil (sz_ok rfl)) (nomark _)) (by rw [eqv_nilD]))
      refine z_ext 1 hmq List.mem_cons_self kbfq (ds := []) (ds2 := shelfD b' R) (de_of (de_call G53 ⟨ownD b' R, rfl, hO.tu.ok, rfl⟩ hr (da_cons (de_var 5 rfl) da_nil)) rfl) (by unfold shelfD; rw [List.length_map, List.length_map, sizeLine_eq]; show 0 + _ ≤ _; omega) ?_
      rw [List.nil_append]
      refine z_pre (A := AD (q :: B) [(1, q), (0, b)] (BF b ((M + 8) + 0) (fun H => ML (q :: B) q (shelfD b' R) H ∧ ((Keep [b] H0 H ∧ fr H) ∧ fr2 H))) _) ?_ fun σ H h => h.swapB
      refine z_setP 8 (k := 0) (n := M + 8) (P := fun d => d = .str (sheetT b' R)) (pz_rd 1 hmq hqB k12 rfl (de_of (de_if (p := b') (d1 := .str (sheetT b' R)) (d2 := .str (sheetT b' R)) (dt_val (de_var 7 rfl)) (fun h => de_call G39.has (f38 hO.F38.2 h) hr (da_cons (de_var 1 rfl) da_nil)) (fun h => de_call G38.has (f38 hO.F38.2 h) hr (da_cons (de_var 1 rfl) da_nil))) (by cases b' <;> rfl))) (fun d8 hd8 => ?_) sc71.nd
      subst hd8
      have okT : okD 7 (.list [.str (sheetT b' R), .str (sheetT b' R)]) := okD_two (okD_flat rfl) (okD_flat rfl)
      refine z_ifR (p := false) (bf_kp (kq20 _)) (dt_not (p := true) (dt_val (de_call G54 ⟨_, rfl, okT, rfl⟩ hr (da_cons (de_lst (da_cons (de_var 8 rfl) (da_cons (de_of (de_if (p := b') (d1 := .str (sheetT b' R)) (d2 := .str (sheetT b' R)) (dt_val (de_var 7 rfl)) (fun h => de_callKw G39 (f38 hO.F38.1 h) hr (de_var 5 rfl)) (fun h => de_callKw G38 (f38 hO.F38.1 h) hr (de_var 5 rfl))) (by cases b' <;> rfl)) da_nil)) (sz_ok rfl)) (da_cons (de_lst (da_cons (de_var 6 rfl) (da_cons (de_var 6 rfl) da_nil)) (sz_ok rfl)) da_nil))))) (fun h => nomatch h) (fun _ => ?_)
      refine z_ifNo (pzt_rd 1 hmq hqB k12 (dt_of (PW.pt (dw_or (dt_not (p := true) (dt_val (de_call G54 ⟨ownD b' R, rfl, okD_up (by decide) hO.tu.ok, rfl⟩ hr (da_cons (de_of (de_call G68 ⟨sheetT b' R, b', rfl, by omega, rfl⟩ hr (da_cons (de_var 6 rfl) (da_cons (de_var 7 rfl) da_nil))) hO.back) (da_cons (de_var 5 rfl) da_nil))))) (fun _ => dw_or1 (dt_of (dt_cmp (op_neD (room_units hr)) (od_neD shL shL) (de_var 1 rfl) (de_call G53 ⟨ownD b' R, rfl, hO.tu.ok, rfl⟩ hr (da_cons (de_var 5 rfl) da_nil)) (nomark _)) e9)))) rfl)) ?_
      refine z_pre (A := AD (q :: B) [(1, q), (0, b)] (BF b (M + 4 * (2 - 0)) (fun H => ML (q :: B) q (shelfD b' R) H ∧ ((Keep [b] H0 H ∧ fr H) ∧ fr2 H))) [none, none, some (.int (i : Nat)), some (ownD false rs), some (ownD true ls), some (ownD b' R), some (.str (sheetT b' R)), some (.bool b'), none, none, none, none, none, none, none, none]) ?_ fun σ H h => h.drop 8
      refine z_for (κ := Str) (ws := [9]) (fun t z => PyData.strOk z = true ∧ z.length ≤ 1500 + t) (fun t z H => BF b (M + 4 * (2 - t)) (fun H => ML (q :: B) q (shelfD b' R) H ∧ ((Keep [b] H0 H ∧ fr H) ∧ fr2 H)) H)
        (fun t z => [none, none, some (.int (i : Nat)), some (ownD false rs), some (ownD true ls), some (ownD b' R), some (.str z), some (.bool b'), none, none, none, none, none, none, none, none]) (fun t z => [none, none, some (.int (i : Nat)), some (ownD false rs), some (ownD true ls), some (ownD b' R), some (.str z), some (.bool b'), none, some (.int (t : Nat)), none, none, none, none, none, none]) (sheetT b' R) ⟨hO.strOk, tlen⟩ PassesOwn.never rfl
        (fun i a => bf_kp (kq20 _)) (di_range (n := 2) (by omega) T.range de_int) (pg_name (i := 9) sc71.nd rfl (Or.inl rfl)) (fun t z d hd _ => ?_) rfl (fun fr3 hfr3 t z ht hz => ?_) (fun z hz => z_nil fun σ H h => ⟨shelfD b' R, hO.shelf, ?_⟩)
      · obtain ⟨_, e⟩ := rangeD_get hd
        subst e
        exact gd_name
      · rw [rangeD_len] at ht
        have kf3 : Kp [b] fr3 := hfr3.less fun a ha => by rw [List.mem_singleton] at ha; rw [ha]; exact hbB
        have kq3 : Kp [b] (fun H => (ML (q :: B) q (shelfD b' R) H ∧ ((Keep [b] H0 H ∧ fr H) ∧ fr2 H)) ∧ fr3 H) := (kq2 _).and kf3
        have kq30 := kq3.less (G := []) fun a ha => by cases ha
        refine z_pre (A := AD (q :: B) [(1, q), (0, b)] (BF b ((M + 4 * (2 - (t + 1))) + 4) (fun H => (ML (q :: B) q (shelfD b' R) H ∧ ((Keep [b] H0 H ∧ fr H) ∧ fr2 H)) ∧ fr3 H)) _) ?_ fun σ H h => h.imp fun H y => ⟨y.1.1.less (by omega), y.1.2, y.2⟩
        refine z_setP 6 (k := 4) (n := M + 4 * (2 - (t + 1))) (P := OkT (z.length + 1)) (pz_imp (k1 := 4 + 0) (pz_call G63 hr hbB hmb kq3 (pza_D (da_cons (de_var 6 rfl) da_nil) kq30) (fun ds hd => ⟨z, hd, hz.1, by omega⟩)) (by decide) (fun d h => ?_)) (fun d6 hd6 => ?_) sc71.nd
        · obtain ⟨ds, rfl, z0, e0, h0⟩ := h
          cases e0
          exact h0
        obtain ⟨z2, rfl, hz2, hl2⟩ := hd6
        have hs2 : okS z2 := ⟨by omega, hz2⟩
        refine z_setD (d := .list [sheetD false z2, sheetD true z2]) 8 (bf_kp kq30) (de_lst (da_cons (de_call G68 ⟨z2, false, rfl, hs2.1, rfl⟩ hr (da_cons (de_var 6 rfl) (da_cons de_bl da_nil))) (da_cons (de_call G68 ⟨z2, true, rfl, hs2.1, rfl⟩ hr (da_cons (de_var 6 rfl) (da_cons de_bl da_nil))) da_nil)) (sz_ok rfl)) ?_ sc71.nd
        have ok2 : okD 7 (.list [sheetD false z2, sheetD true z2]) := okD_two (okD_up (by decide) (okD_sheet hs2.1)) (okD_up (by decide) (okD_sheet hs2.1))
        refine z_ifR (p := false) (bf_kp kq30) (dt_not (p := true) (dt_val (de_call G54 ⟨_, rfl, ok2, rfl⟩ hr (da_cons (de_var 8 rfl) (da_cons (de_lst (da_cons (de_call G67 ⟨z2, false, rfl, hs2, rfl⟩ hr (da_cons (de_var 6 rfl) (da_cons de_bl da_nil))) (da_cons (de_call G67 ⟨z2, true, rfl, hs2, rfl⟩ hr (da_cons (de_var 6 rfl) (da_cons de_bl da_nil))) da_nil)) (sz_ok rfl)) da_nil))))) (fun h => nomatch h) (fun _ => z_nil fun σ H h => ⟨z2, ⟨hz2, by have := hz.2; omega⟩, ?_⟩)
        exact ((h.drop 8).drop 9).imp fun H y => ⟨⟨y.1, y.2.1⟩, y.2.2⟩
      · have hh := (((h.drop 5).drop 6).drop 7)
        refine hh.imp fun H y => ⟨⟨y.2.1, ?_, y.2.2.1⟩, y.2.2.2⟩
        exact y.1.less (by rw [rangeD_len]; omega)
    · refine z_pre (A := AD (q :: B) [(1, q), (0, b)] (BF b (N + 3) (fun H => ML (q :: B) q a2 H ∧ (Keep [b] H0 H ∧ fr H))) [none, none, some (.int (i : Nat)), none, none, none, none, none, none, none, none, none, none, none, none, none]) ?_ fun σ H h => ((h.drop 3).drop 4).imp fun H z => ⟨z.2.1.less (by omega), z.1, z.2.2⟩
      have kq2 : Kp [b] (fun H => ML (q :: B) q a2 H ∧ (Keep [b] H0 H ∧ fr H)) := (kml a2).and kf1
      have kq20 := kq2.less (G := []) fun a ha => by cases ha
      have elen : (enumD 0 (cutD [.str "a", .str "b", .str "key"] none (some ((i : Nat) % 4 : Int)))).length ≤ 3 := by
        rw [enumD_length]
        unfold cutD
        rw [List.length_take, List.length_drop]
        exact Nat.le_trans (Nat.min_le_right _ _) (Nat.sub_le _ _)
      refine z_setP 10 (k := 3) (n := N) (P := fun d => ∃ ps : List (Str × Option Int), d = .tuple (ps.map autD) ∧ ps.length ≤ 3 ∧ ∀ p ∈ ps, okP2 p) (pz_imp (pz_tupL (P1 := fun d => ∃ ps : List (Str × Option Int), d = .tuple (ps.map autD) ∧ ps.length ≤ 3 ∧ ∀ p ∈ ps, okP2 p) kq20 T.tuple hbB (pz_imp (k2 := 3) (pz_lcP (ds := enumD 0 (cutD [.str "a", .str "b", .str "key"] none (some ((i : Nat) % 4 : Int)))) (N0 := N71) (sc0 := defScope (top 71)) 14 5 (P2 := fun _ d => ∃ p, d = autD p ∧ okP2 p) (k2 := 0 + ((1 + 0) + 0)) hbB kq2 rfl sc71.nd (by decide +kernel) (by rw [sizeLine_eq]; omega) (di_enum T.enumerate (de_slL (de_lst (da_strs (zs := ["a", "b", "key"]) rfl) (sz_ok rfl)) dp_none (dp_some (de_mod (by decide) (de_var 2 rfl) de_int)))) rfl (fun d hd => ?_) (fun d1 d2 hd q' f hq' hf' s H C cl fp => ?_)) (by omega) (fun d h => ?_))) (by decide) (fun d h => h)) (fun d10 hd10 => ?_) sc71.nd
      · obtain ⟨j, hj⟩ := List.mem_iff_getElem?.mp hd
        rw [enumD_get] at hj
        obtain ⟨d', _, rfl⟩ := Option.map_eq_some_iff.mp hj
        exact ⟨_, _, rfl⟩
      · obtain ⟨kk, z, rfl, rfl, hk0, hk1, hz1, hz2⟩ := pair_at hd
        have hbq : b ∈ q' :: q :: B := List.mem_cons_of_mem _ hbB
        have hf0 := hf'.less (G := []) fun a ha => by cases ha
        refine pz_imp (k1 := 0 + ((1 + 0) + 0)) (pz_tup (pza_cons hbq (pz_D (de_var 5 rfl) hf0) (pza_cons hbq (pz_call G52 hr hbq hmb hf' (pza_D (da_cons (de_lst (da_cons de_non (da_cons (de_var 14 rfl) (da_cons (de_mul (.inl ⟨by decide, by decide⟩) de_int (de_var 14 rfl)) da_nil))) (sz_ok rfl)) da_nil) hf0) (fun ds hd => ⟨_, hd, by show 0 < 3; decide, by show 3 ≤ 1000; decide⟩)) (pza_D da_nil hf0))) (fun ds hd => ?_) hf0) (Nat.le_refl _) (fun d h => ?_)
        · obtain ⟨d1, t1, rfl, _, d2, t2, rfl, _, e4⟩ := hd
          subst e4
          exact sz_ok rfl
        · obtain ⟨ds, ⟨d1, t1, rfl, rfl, d2, t2, rfl, ⟨ds2, rfl, xs, e2, h2⟩, rfl⟩, rfl⟩ := h
          cases e2
          simp only [List.mem_cons, List.not_mem_nil, or_false] at h2
          rcases h2 with e | e | e <;> subst e
          · exact ⟨(z, none), rfl, ⟨⟨hz1, fun i hi => by cases hi⟩, hz2⟩⟩
          · exact ⟨(z, some kk), rfl, ⟨⟨hz1, fun i hi => by cases hi; exact ⟨hk0, by omega⟩⟩, hz2⟩⟩
          · exact ⟨(z, some (10 * kk)), rfl, ⟨⟨hz1, fun i hi => by cases hi; exact ⟨by omega, by omega⟩⟩, hz2⟩⟩
      · obtain ⟨es, ho, rfl⟩ := h
        obtain ⟨ps, rfl, hps⟩ := pairs_of (es := es) fun e he => by
          obtain ⟨d, _, _, p, h1, h2⟩ := ho.mem e he
          exact ⟨p, h1, h2⟩
        refine ⟨_, rfl, ps, rfl, ?_, hps⟩
        have := ho.len
        rw [List.length_map] at this
        exact Nat.le_trans this elen
      obtain ⟨ps, rfl, hl3, hps⟩ := hd10
      have hok : ∀ p ∈ ps, okP p := fun p hp => (hps p hp).1
      have hfit : ((ps.map autT).map (·.length)).sum + (ps.map autT).length * (" " : Str).length ≤ 16777216 := by
        refine join_fits (L := 30) (fun z hz => ?_) ?_
        · obtain ⟨p, hp, e⟩ := List.mem_map.mp hz
          subst e
          exact autT_len (hok p hp)
        · rw [List.length_map, show (" " : Str).length = 1 by rfl]
          omega
      refine z_setLc (d := .list ((ps.map autT).map .str)) 11 (LcOk.of (lk_P (N0 := N71) (sc0 := defScope (top 71)) 5 15 (ds := ps.map autD) (f := fun d => .str (autOf d)) rfl sc71.nd (by decide +kernel) ?_ (di_tup (de_var 10 rfl)) (fun d hd => ?_) (fun d1 d2 hd s H C cl fp => ?_)) ?_) (bf_kp kq20) ?_ rfl sc71.nd
      · rw [List.length_map, sizeLine_eq]
        omega
      · obtain ⟨p, h1, e⟩ := List.mem_map.mp hd
        exact ⟨_, _, e.symm⟩
      · obtain ⟨p, h1, e⟩ := List.mem_map.mp hd
        have hpp := hok p h1
        obtain ⟨z, o⟩ := p
        have a1 := add_fits (b := ":") hpp.1 (show (":" : Str).length ≤ 1 by decide) (by decide)
        cases o with
        | none =>
          cases e
          have a3 := add_fits (b := "-") a1.2 (show ("-" : Str).length ≤ 1 by decide) (by decide)
          exact de_bin op_add_str (od_addS a3.1) (de_bin op_add_str (od_addS a1.1) (de_var 5 rfl) de_str) (de_if (p := true) (d2 := .none) (dt_cmp op_isN od_isN (de_var 15 rfl) de_non rfl) (fun _ => de_str) (fun h => nomatch h))
        | some i =>
          cases e
          have a3 := add_fits a1.2 (len_txI (hpp.2 i rfl)) (by decide)
          exact de_bin op_add_str (od_addS a3.1) (de_bin op_add_str (od_addS a1.1) (de_var 5 rfl) de_str) (de_if (p := false) (d1 := .none) (dt_cmp op_isN od_isN (de_var 15 rfl) de_non rfl) (fun h => nomatch h) (fun _ => de_strI T.str (log_ok (hpp.2 i rfl)) (de_var 15 rfl)))
      · rw [List.map_map, List.map_map]
        congr 1
        exact List.map_congr_left fun p _ => by
          show PyData.str (autOf (autD p)) = .str (autT p)
          rw [autOf_ok]
      refine z_setD (d := .str (authT ps)) 12 (bf_kp kq20) (de_of (de_orS (de_join (ys := ps.map autT) (.inl rfl) hfit de_str (de_var 11 rfl)) (de_one (de_str (i := "-"))) (auth_len hok hl3)) (auth_eq ps)) ?_ sc71.nd
      have tu : tuD 5 (.tuple (ps.map autD)) := pairs_tu (by omega) hps
      have f40 : F40 [.tuple (ps.map autD)] (.str (authT ps)) ∧ F40 [lisN 5 (.tuple (ps.map autD))] (.str (authT ps)) := ⟨⟨_, ps, rfl, tu.ok, tu_self tu, ⟨by omega, hok⟩, rfl⟩, ⟨_, ps, rfl, tu.lis.1, tu.lis.2, ⟨by omega, hok⟩, rfl⟩⟩
      have okA : okD 7 (.list [.str (authT ps), .str (authT ps)]) := okD_two (okD_flat rfl) (okD_flat rfl)
      refine z_ifR (p := false) (bf_kp kq20) (dt_not (p := true) (dt_val (de_call G54 ⟨_, rfl, okA, rfl⟩ hr (da_cons (de_lst (da_cons (de_call G40.has f40.1 hr (da_cons (de_var 10 rfl) da_nil)) (da_cons (de_callKw G40 f40.2 hr (de_call G53 ⟨_, rfl, tu.ok, rfl⟩ hr (da_cons (de_var 10 rfl) da_nil))) da_nil)) (sz_ok rfl)) (da_cons (de_lst (da_cons (de_var 12 rfl) (da_cons (de_var 12 rfl) da_nil)) (sz_ok rfl)) da_nil))))) (fun h => nomatch h) (fun _ => z_nil fun σ H h => ⟨a2, hC2, ?_⟩)
      exact (((h.drop 2).drop 10).drop 11).drop 12 |>.imp fun H z => ⟨⟨z.2.1, z.1, z.2.2.1⟩, z.2.2.2⟩
  · refine z_ret (z_D de_bl (kp_ml (bf_kp k0))) fun σ v H' qq => ⟨.bool true, rfl, qq.1.2.2.2.2.2, qq.1.2.2.2.2.1.less (by omega), flat_up qq.2 rfl⟩
end
end Sv
/-! part R4 -/
set_option Elab.async false
set_option linter.all false
set_option maxRecDepth 100000
set_option maxHeartbeats 8000000
namespace Sv
open PySem PySem.Spec PyProof.Rows L2
section
variable {X : Cx} {r : Rho} {d d1 d2 : PyData} {e c a o : Expr} {es : List Expr} {ds : List PyData} {pos : Pos} {p : Bool} {B : List Addr} {sl : List (Nat × Addr)} {m : Hp → Prop} {A N M : As} {R : V → Hp → Prop} {rest : List Stmt} {q : Addr}
def absI (i : Int) : Int := if i < 0 then -i else i
theorem de_abs {pp : Pos} {i : Int} (hm : X.mg "abs" = none) (h : PE X e (tD r (.int i))) (hg : Gl X "abs" := by rfl) (he : starEach [e] X.env = (false, eval e X.env) :: starEach [] X.env := by rfl) : PE X (.Call (.Name "abs" pp) [e] [] pos) (tD r (.int (absI i))) := by
  refine de_callB call_abs ?_ hm (by decide +kernel) (da_cons h da_nil he) hg (by decide) (by decide) he
  intro B H xs Q D rs k
  obtain ⟨x, e, rx⟩ := rs.one_inv
  subst e
  cases rx
  exact ⟨i, rfl, k _ H (Same.refl H) (.int _)⟩
theorem de_pow {i j : Int} (h : (0 ≤ j ∧ j ≤ 1000000) ∧ i.natAbs < 2 ^ 64) (ha : PE X a (tD r (.int i))) (hb : PE X c (tD r (.int j))) : PE X (.BinOp a .Pow c pos) (tD r (.int (i ^ j.toNat))) :=
  de_bin op_pow (od_IC (C := CPow) (k := fun i j => .int (i ^ j.toNat)) ⟨h.1.1, h.1.2, h.2⟩ fun _ _ => .int _) ha hb
/-- x[y] = e, e read -/
theorem z_itemV (i : Nat) {x : Str} {px ps_ : Pos} {ei : Expr} {k : Int} {j : Nat} (hi : (i, q) ∈ sl) (hq : q ∉ B) (hm : Kp [q] m) (hd : flatD d = true) (he : PE X e (tD (r.set i (some (.list ds))) d)) (hk : PE X ei (tD (r.set i (some (.list ds))) (.int k))) (hj : ixN ds.length k = some j)
    (hr : PSs X rest (tZ (AD (q :: B) sl (fun H => ML (q :: B) q (ds.set j d) H ∧ m H) r) N R)) (hN : X.N[i]? = some x := by rfl) (hv : Vis X.env.scope x := by first | exact Or.inl rfl | exact Or.inr (Or.inl rfl) | exact Or.inr (Or.inr rfl)) (hdb : (x == ("__debug__" : Str)) = false := by decide) (hcd : (x == ("__classdict__" : Str)) = false := by decide)
    (hs : swapsWithSole [.Subscript (.Name x px) ei ps_] e pos.line X.env = pure false := by rfl) (hw : swappedStores [.Subscript (.Name x px) ei ps_] e X.env = pure none := by rfl) (h1 : (assignEach [.Subscript (.Name x px) ei ps_] X.env).map (·.2) = [assign (.Subscript (.Name x px) ei ps_) X.env] := by rfl)
    (ha : ∀ v, assign (.Subscript (.Name x px) ei ps_) X.env v = (do
      let ov ← holding [v] (eval (.Name x px) X.env)
      let iv ← holding [v, ov] (eval ei X.env)
      standAt ps_
      holding [v, ov, iv] (setItem ov iv v)
      release [v, ov, iv] []) := by intro _; rfl) :
    PSs X (.Assign [.Subscript (.Name x px) ei ps_] e pos :: rest) (tZ (AD (q :: B) sl (fun H => ML (q :: B) q ds H ∧ m H) r) N R) := by
  refine (pss_cons (ps_asg he (pg_sub (pe_var hN hv hdb hcd) hk set_list ha) hs hw h1) hr).wkS fun Dn σ H ⟨a, kn, k2⟩ => ?_
  refine ⟨B, (a.rd i hi hq).1, (a.rd i hi hq).2, fun v H1 s1 rv => ?_⟩
  have a1 := a.same s1 (kp_ml (hm.less fun b hb => by cases hb))
  refine ⟨.ref q, a1.2.2.1 _ hi, B, (a1.rd i hi hq).1, (a1.rd i hi hq).2, fun u H2 s2 ru => ?_⟩
  cases ru
  have a2 := a1.same s2 (kp_ml (hm.less fun b hb => by cases hb))
  obtain ⟨D, E, sls, ⟨vs, e1, rs⟩, hm1⟩ := a2
  refine ⟨q, vs, k, j, rfl, rfl, e1, by rw [rs.length]; exact hj, ?_⟩
  have kk' : Keep [q] H2 (upd H2 q (.lst (vs.set j v))) := fun b o hb e => by
    rw [upd_ne (fun z => hb (by simp [z]))]
    exact e
  have kB : Keep (q :: B) H2 (upd H2 q (.lst (vs.set j v))) := kk'.sub fun b hb => by
    rw [List.mem_singleton] at hb
    rw [hb]; exact List.mem_cons_self
  exact ⟨⟨D.upd, E.keep kB, sls, ⟨vs.set j v, upd_same, z_item.rps_set (rs.keep kB) ((flat_up (rv.same s2) hd).keep kB) j⟩, hm _ _ kk' hm1⟩, kn, k2⟩
end
section
variable {P : Program} {w : World} {K : PySem.W.Frag} {mg : Str → Option Value} {base : Heap}
/-! ### _law_box -/
abbrev N49 : List Str := ["_law_script", "_law_k", "_law_cell"]
theorem sc49 : FnScope N49 ["_law_script", "_law_k"] (defScope (top 49)) := ⟨rfl, rfl, rfl, by decide +kernel, rfl, by decide +kernel, by decide +kernel⟩
def boxX (c : Int) : Int := absI c * (if decide (absI c ≥ 10 ^ (18 : Int).toNat) then 1 else 0)
def boxY (c : Int) (k : Nat) : Int := c % 2305843009213693951 + 39373 * (k : Int) + 233
abbrev F49 : List PyData → PyData → Prop := fun ds d => ∃ (cs : List Int) (k : Nat) (c : Int), ds = [.list (cs.map .int), .int (k : Nat)] ∧ cs[k]? = some c ∧ k < 100 ∧ d = .list [.int (boxX c), .int (boxY c k), .int 0]
theorem ok_box {f : Addr} {fd : FuncData} (F : FnP K "_law_box" (top 49) f fd) (T : Tx mg) : FnOk P w K mg base CX0 1 f fd ["_law_script", "_law_k"] (spF F49) := by
  refine fn_ok F sc49 (fun ds d ⟨cs, k, c, h, _⟩ => by rw [h]; rfl) fun cdv A outer s H E hr ds d hF => ?_
  obtain ⟨cs, k, c, rfl, hc, hk, rfl⟩ := hF
  show PSs _ _ (tS [some (.list (cs.map .int)), some (.int (k : Nat)), none] _ _)
  have hlt : k < cs.length := (List.getElem?_eq_some_iff.mp hc).1
  have hat : L2.atI (cs.map PyData.int) ((k : Nat) : Int) = some (.int c) := by
    unfold L2.atI ixN
    rw [if_pos (Int.natCast_nonneg _), if_pos (by rw [List.length_map]; omega)]
    show (cs.map PyData.int)[(k : Int).toNat]? = _
    rw [Int.toNat_natCast, List.getElem?_map, hc]
    rfl
  refine ds_set (d := .int c) 2 (de_of (de_if (p := true) (d2 := .none) (dt_of (dt_cmp op_lt od_lt (de_var 1 rfl) (de_lenL T.len (de_var 0 rfl)) (nomark _)) (decide_eq_true (by rw [List.length_map]; omega))) (fun _ => de_ixL hat (de_var 0 rfl) (de_var 1 rfl)) (fun h => nomatch h)) rfl) ?_ sc49.nd
  have h1 : ∀ p : Bool, (-(2 ^ 64) : Int) < (if p then (1 : Int) else 0) ∧ (if p then (1 : Int) else 0) < 2 ^ 64 := fun p => by cases p <;> exact ⟨by decide, by decide⟩
  exact ds_ret (de_lst (da_cons (de_mul (.inr (h1 _)) (de_abs T.abs (de_var 2 rfl)) (de_intB T.int (de_cmp op_ge od_ge (de_abs T.abs (de_var 2 rfl)) (de_pow ⟨⟨by decide, by decide⟩, by decide⟩ de_int de_int) (nomark _)))) (da_cons (de_add (de_add (de_mod (by decide) (de_intI T.int (de_var 2 rfl)) de_int) (de_mul (.inl ⟨by decide, by decide⟩) de_int (de_var 1 rfl))) de_int) (da_cons de_int da_nil))) (sz_ok rfl)) rfl
end
end Sv
/-! part R5 -/
set_option Elab.async false
set_option linter.all false
set_option maxRecDepth 100000
set_option maxHeartbeats 8000000
namespace Sv
open PySem PySem.Spec PyProof.Rows L2
section
variable {X : Cx} {r : Rho} {d d1 d2 : PyData} {e c a o : Expr} {es : List Expr} {ds ds2 : List PyData} {pos : Pos} {p : Bool} {B : List Addr} {sl : List (Nat × Addr)} {m : Hp → Prop} {A N M : As} {R : V → Hp → Prop} {rest : List Stmt} {q : Addr}
theorem df_listL {pp : Pos} (hm : X.mg "list" = none) (h : PE X e (tD r (.list ds))) (hg : Gl X "list" := by rfl) (he : starEach [e] X.env = (false, eval e X.env) :: starEach [] X.env := by rfl) (hpl : (backTo pos (starEach [] X.env)).any (·.1) = false := by rfl) : PE X (.Call (.Name "list" pp) [e] [] pos) (tF r ds) :=
  (pe_callTy call_list_of hg hm (by decide +kernel) (pa_cons h pa_nil he) (by decide) (by decide) he hpl).wkS fun σ H Q ⟨B, D, E, k⟩ => ⟨B, D, E, fun v H1 s rv => by
    obtain ⟨a, xs, e, h, n, rs⟩ := rv.list_inv
    subst e
    exact ⟨a, xs, rfl, .inl (.inl h), fun l hl => k l xs H1 s hl rs⟩⟩
/-- a or c, lists that are new -/
theorem df_orL {rs_ : List Expr} (ha : PE X a (tF r ds)) (hb : PE X (.BoolOp .Or (c :: rs_) pos) (tF r ds2)) : PE X (.BoolOp .Or (a :: c :: rs_) pos) (tF r (if ds.isEmpty then ds2 else ds)) := (pe_orT ha hb).wkS fun σ H Q ⟨B, D, E, k⟩ => ⟨B, D, E, fun l vs H1 s hl rs => by
  refine ⟨_, .inl ⟨vs, .inl (.inl upd_same), rfl⟩, ?_⟩
  cases ds with
  | nil =>
    cases rs
    have s2 := s.trans (same_new (o := .lst []) hl)
    exact iteF ⟨B, D.same s2, E.same s2, fun l2 vs2 H2 s3 h2 r2 => k l2 vs2 H2 (s2.trans s3) h2 r2⟩
  | cons d0 dr =>
    cases rs with
    | cons r1 r2 => exact iteT (k l _ H1 s hl (.cons r1 r2))⟩
end
section
variable {P : Program} {w : World} {K : PySem.W.Frag} {mg : Str → Option Value} {base : Heap}
/-! ### _law_cells -/
abbrev N51 : List Str := ["_law_script", "_law_most", "_law_cells_here", "_law_k", "_law_cell", "_law_at_so"]
theorem sc51 : FnScope N51 ["_law_script", "_law_most"] (defScope (top 51)) := ⟨rfl, rfl, rfl, by decide +kernel, rfl, by decide +kernel, by decide +kernel⟩
def P51 : List PyData → Prop := fun ds => ∃ cs : List Int, ds = [.list (cs.map .int), .int 2] ∧ cs.length ≤ 1000
def F51 : List PyData → PyData → Prop := fun _ d => ∃ xs : List Int, d = .list (xs.map .int) ∧ 0 < xs.length ∧ xs.length ≤ 2
theorem atI_in {ys : List Int} {k : Nat} (h : k < ys.length) : ∃ c, L2.atI (ys.map PyData.int) ((k : Nat) : Int) = some (.int c) ∧ ixN (ys.map PyData.int).length ((k : Nat) : Int) = some k := by
  refine ⟨ys[k], ?_, ?_⟩
  · unfold L2.atI ixN
    rw [if_pos (Int.natCast_nonneg _), if_pos (by rw [List.length_map]; omega)]
    show (ys.map PyData.int)[(k : Int).toNat]? = _
    rw [Int.toNat_natCast, List.getElem?_map, List.getElem?_eq_getElem h]
    rfl
  · unfold ixN
    rw [if_pos (Int.natCast_nonneg _), if_pos (by rw [List.length_map]; omega), Int.toNat_natCast]
theorem enum_int {xs : List Int} {i : Nat} {d : PyData} (h : (enumD 0 (xs.map .int))[i]? = some d) : ∃ c, xs[i]? = some c ∧ d = .tuple [.int (i : Nat), .int c] := by
  rw [enumD_get, List.getElem?_map] at h
  cases e : xs[i]? with
  | none => rw [e] at h; cases h
  | some c =>
    rw [e] at h
    refine ⟨c, rfl, ?_⟩
    have := Option.some.inj h
    rw [← this, Nat.zero_add]
theorem ok_cells {f : Addr} {fd : FuncData} (F : FnP K "_law_cells" (top 51) f fd) (T : Tx mg) : FnOk P w K mg base CX0 1 f fd ["_law_script", "_law_most"] (spE P51 F51) := by
  refine fn_okE F sc51 (fun ds ⟨cs, h, _⟩ => by rw [h]; rfl) fun cdv A outer s H E hr ds hp B H0 => ?_
  obtain ⟨cs, rfl, hcs⟩ := hp
  show PSs _ _ (tZ (AD B [] _ [some (.list (cs.map .int)), some (.int 2), none, none, none, none]) _ _)
  have kb : Kp [] (Keep [] H0) := Kp.base fun a ha => by cases ha
  obtain ⟨ys, hys, y0, y1, yt⟩ : ∃ ys : List Int, (if (cutD (cs.map PyData.int) none (some 2)).isEmpty then [PyData.int 0] else cutD (cs.map PyData.int) none (some 2)) = ys.map .int ∧ 0 < ys.length ∧ ys.length ≤ 2 ∧ ((cutL cs (some 2) (some 63)).length ≠ 0 → ys.length = 2) := by
    rw [cutD_map]
    have e2 : (2 : Int) = ((2 : Nat) : Int) := rfl
    have l1 : (cutL cs none (some 2)).length = min 2 cs.length := by
      unfold cutL
      rw [e2, HT.sIx_nat, HT.sIx_none, List.drop_zero, List.length_take]
      omega
    have l2 : (cutL cs (some 2) (some 63)).length ≠ 0 → 2 < cs.length := fun h => by
      unfold cutL at h
      rw [List.length_take, List.length_drop, e2, HT.sIx_nat] at h
      omega
    cases hc : cutL cs none (some 2) with
    | nil =>
      rw [hc] at l1
      simp only [List.length_nil] at l1
      exact ⟨[0], rfl, by decide, by decide, fun h => by have := l2 h; omega⟩
    | cons z zs =>
      rw [hc] at l1
      refine ⟨z :: zs, rfl, by simp, by omega, fun h => by have := l2 h; omega⟩
  refine z_new 2 (fun q => H0 q = none) (fun H q D k hq => ?_) kb (df_orL (df_listL T.list (de_slL (de_var 0 rfl) dp_none (dp_some (de_var 1 rfl)))) (pe_one (df_lst (da_cons de_int da_nil) (sz_ok rfl)))) (fun q hq0 hqB => ?_) (Nat.le_of_ble_eq_true rfl) sc51.nd
  · cases e : H0 q with
    | none => rfl
    | some o => rw [k q o (by simp) e] at hq; cases hq
  rw [hys]
  have elen : (enumD 0 ((cutL cs (some 2) (some 63)).map PyData.int)).length = (cutL cs (some 2) (some 63)).length := by rw [enumD_length, List.length_map]
  refine z_for (κ := List Int) (ws := [3, 4]) (fun i a => a.length = ys.length) (fun i a H => ML (q :: B) q (a.map .int) H ∧ Keep [] H0 H)
    (fun i a => [some (.list (cs.map .int)), some (.int 2), none, none, none, none]) (fun i a => [some (.list (cs.map .int)), some (.int 2), none, some (.int (i : Nat)), ((cutL cs (some 2) (some 63))[i]?).map .int, none]) ys rfl PassesOwn.never rfl
    (fun i a => kp_ml kb) (di_enum (ds := (cutL cs (some 2) (some 63)).map PyData.int) T.enumerate (de_of (de_slL (de_var 0 rfl) (dp_some (de_var 1 rfl)) (dp_some de_int)) (by rw [cutD_map]))) (pg_tup rfl (pgs_cons (pg_name (i := 3) sc51.nd rfl (Or.inl rfl)) (pgs_cons (pg_name (i := 4) sc51.nd rfl (Or.inl rfl)) pgs_nil)) rfl rfl) (fun i a d hd _ => ?_) rfl (fun fr hfr i a hi hC => ?_) (fun a hC => ?_)
  · obtain ⟨c, e1, rfl⟩ := enum_int hd
    rw [e1]
    exact gd_pair
  · rw [elen] at hi
    obtain ⟨c, e1⟩ : ∃ c, (cutL cs (some 2) (some 63))[i]? = some c := ⟨_, List.getElem?_eq_getElem hi⟩
    rw [e1, Option.map_some]
    have hy2 : a.length = 2 := by rw [hC]; exact yt (by omega)
    have kf : Kp [q] (fun H => Keep [] H0 H ∧ fr H) := Kp.and (Kp.base fun a ha => by rw [List.mem_singleton] at ha; exact .inr (by rw [ha]; exact hq0)) (hfr.less fun a ha => by rw [List.mem_singleton] at ha; rw [ha]; exact List.mem_cons_self)
    have kf0 := kf.less (G := []) fun a ha => by cases ha
    refine z_pre (A := AD (q :: B) [(2, q)] (fun H => ML (q :: B) q (a.map .int) H ∧ (Keep [] H0 H ∧ fr H)) _) ?_ fun σ H h => h.imp fun H z => ⟨z.1.1, z.1.2, z.2⟩
    have hmod : (((i : Nat) : Int) % 2) = ((i % 2 : Nat) : Int) := by omega
    have hlt : i % 2 < a.length := by omega
    obtain ⟨c0, ha1, ha2⟩ := atI_in hlt
    refine z_setD (d := .int ((i % 2 : Nat) : Int)) 5 (kp_ml kf0) (de_of (de_mod (by decide) (de_intI T.int (de_var 3 rfl)) (de_var 1 rfl)) (by rw [hmod])) ?_ sc51.nd
    have hi63 : (((i : Nat) : Int) + 2) < 2 ^ 64 := by
      have : (cutL cs (some 2) (some 63)).length ≤ 1000 := by
        unfold cutL
        rw [List.length_take, List.length_drop]
        omega
      omega
    refine z_itemV 2 (j := i % 2) (d := .int (c0 + c * (((i : Nat) : Int) + 2))) List.mem_cons_self hqB kf rfl (de_add (de_ixL ha1 (de_var 2 rfl) (de_var 5 rfl)) (de_mul (.inr ⟨by omega, hi63⟩) (de_var 4 rfl) (de_add (de_var 3 rfl) de_int))) (de_var 5 rfl) ha2 (z_nil fun σ H h => ⟨a.set (i % 2) (c0 + c * (((i : Nat) : Int) + 2)), by rw [List.length_set]; exact hC, ?_⟩)
    have hh := ((h.drop 3).drop 4).drop 5
    rw [List.map_set]
    exact hh.imp fun H z => ⟨⟨z.1, z.2.1⟩, z.2.2⟩
  · refine z_frz 2 List.mem_cons_self hqB (z_ret (z_D (de_var 2 rfl) kb) fun σ v H' qq => ⟨_, ⟨a, rfl, by rw [hC]; exact y0, by rw [hC]; exact y1⟩, qq.1.2.2.2, qq.2⟩)
end
end Sv
/-! part R6 -/
set_option Elab.async false
set_option linter.all false
set_option maxRecDepth 100000
set_option maxHeartbeats 8000000
namespace Sv
open PySem PySem.Spec PyProof.Rows L2
section
variable {X : Cx} {r : Rho} {d d1 d2 : PyData} {e c : Expr} {es : List Expr} {ds : List PyData} {pos : Pos} {p : Bool} {B : List Addr} {sl : List (Nat × Addr)} {m : Hp → Prop} {A N M : As} {R : V → Hp → Prop} {st : Stmt} {rest b : List Stmt}
/-- a for, the heap before it told -/
theorem z_forH {κ : Type} {tg iter : Expr} {body : List Stmt} {g : TG} {ws : List Nat} (C : Nat → κ → Prop) (mm : Nat → κ → Hp → Prop) (u v : Nat → κ → Rho) (k0 : κ) (h0 : C 0 k0) (hp : PassesOwn (model X.prog X.w) X.A X.env X.xe) (hc : X.calm = true) (hm : ∀ i k, Kp [] (mm i k)) (hi : PI X tg iter (tI (u 0 k0) ds)) (hgp : PG X tg g)
    (hg : ∀ i k d, ds[i]? = some d → C i k → GD g (u i k) d (v i k) ws) (hsl : sl.all (fun q => !ws.contains q.1) = true)
    (hb : ∀ (H1 : Hp), ∀ i k, i < ds.length → C i k → PSs X body (tZ (AD B sl (fun H => mm i k H ∧ Keep B H1 H) (v i k)) (fun σ H => ∃ k', C (i + 1) k' ∧ AD B sl (fun H => mm (i + 1) k' H ∧ Keep B H1 H) (u (i + 1) k') σ H) R))
    (hr : ∀ k, C ds.length k → PSs X rest (tZ (AD B sl (mm ds.length k) (u ds.length k)) N R)) (hs : ∀ x, foldedSetIterable iter X.env x = pure x := by intro _; rfl) :
    PSs X (.For tg iter body [] pos :: rest) (tZ (AD B sl (mm 0 k0) (u 0 k0)) N R) := by
  refine ⟨fun pins s σ H Dn I q => ?_⟩
  obtain ⟨⟨D, E, sls, hm0⟩, k, k2⟩ := q
  have hbe : ∀ H1, PSs X body (tbZ B sl ds.length C mm u v (Keep B H1) R) := fun H1 => PSs.ex (C := fun a : Nat × κ => a.1 < ds.length ∧ C a.1 a.2) fun a ha => hb H1 a.1 a.2 ha.1 ha.2
  have hbx : PSs X body (fun Dn σ H => ∃ H1, tbZ B sl ds.length C mm u v (Keep B H1) R Dn σ H) := ⟨fun pins s σ H D I ⟨H1, q⟩ => (hbe H1).run pins s σ H D I q⟩
  have hfor := ps_for (pos := pos) hp hc hi hgp hbx hs
  refine wpAny_execs_cons (thn (hfor.run pins s σ H { Dn with nx := fun σ' H' => ∃ k, C ds.length k ∧ AD B sl (mm ds.length k) (u ds.length k) σ' H' } I ⟨B, D, E, fun J H1 s1 gv => ?_⟩) fun f s2 z => ?_)
  · obtain ⟨G, Y, w, hG, hY⟩ := gv.ex
    refine for_it (D := { Dn with nx := fun σ' H' => ∃ k, C ds.length k ∧ AD B sl (mm ds.length k) (u ds.length k) σ' H' }) (g := g) (tb := fun Dn σ H => ∃ H1, tbZ B sl ds.length C mm u v (Keep B H1) R Dn σ H) w (fun i σ2 H2 => ∃ k, C i k ∧ AD B sl (fun H => mm i k H ∧ Keep B H1 H) (u i k) σ2 H2) ⟨k0, h0, D.same s1, E.same s1, sls, (hm 0 k0).same s1 hm0, fun b o _ e => e⟩ (fun i σ2 H2 hi h => ?_) ?_ ?_
    · obtain ⟨k, _, _, _, _, _, kk⟩ := h
      exact hG H2 kk
    · rintro i x σ2 H2 H3 hi ⟨k, ck, D2, E2, sl2, m2, kk⟩ y
      have hd : ds[i]? = some ds[i] := List.getElem?_eq_getElem hi
      obtain ⟨s3, rx⟩ := hY i _ H2 x H3 B hd kk y D2 (fun b hb => hb) (fun b hb => .inl hb)
      refine hg i k _ hd ck B H3 x σ2 _ (D2.same s3) (E2.same s3) rx fun σ3 E3 hσ _ => ?_
      refine ⟨H1, (i, k), ⟨hi, ck⟩, ⟨D2.same s3, E3, fun q hq => ?_, (hm i k).same s3 m2, fun b o n e => s3 b o (kk b o n e)⟩, fun σ' H' n => n, fun v H' q => k2 v H' q⟩
      have z := List.all_eq_true.mp hsl q hq
      rw [hσ q.1 (fun w => by rw [Bool.not_eq_true'] at z; rw [List.contains_iff_mem.mpr w] at z; cases z)]
      exact sl2 q hq
    · rintro σ2 H2 ⟨k, ck, D2, E2, sl2, m2, kk⟩
      exact ⟨k, ck, D2, E2, sl2, m2⟩
  · cases f with
    | next =>
      obtain ⟨σ', H', I', kk, ck, a⟩ := z
      exact (hr kk ck).run pins s2 σ' H' Dn I' ⟨a, k, k2⟩
    | ret v => exact z
    | brk => exact z
    | cont => exact z

end
/-- a promise of a new list -/
def spL (F : List PyData → List PyData → Prop) : Sp := fun vs H Q _ => ∃ (B : List Addr) (ds items : List PyData), Dom B H ∧ Rps B H vs ds ∧ F ds items ∧ ∀ p ws H', Same H H' → H' p = none → Rps B H' ws items → Q (.ref p) (upd H' p (.lst ws))
section
variable {X : Cx} {r : Rho} {d d1 d2 : PyData} {e c a o : Expr} {es : List Expr} {ds ds2 : List PyData} {pos : Pos} {p : Bool} {B : List Addr} {sl : List (Nat × Addr)} {b q : Addr} {fr m : Hp → Prop} {A N M : As} {R : V → Hp → Prop} {rest : List Stmt} {k k1 k2 : Nat} {P P1 P2 : PyData → Prop}
theorem de_callL {j : Nat} {x : Str} {ps : List Str} {F : List PyData → List PyData → Prop} {items : List PyData} {pp : Pos} (G : Has X.prog X.w X.K X.mg X.base CX0 j x ps (spL F)) (h : F ds items) (hr : Room j X.A) (ha : PA X (e :: es) (tA r ds)) (hg : Gl X x := by rfl) (hdb : (x == ("__debug__" : Str)) = false := by decide)
    (he : starEach (e :: es) X.env = (false, eval e X.env) :: starEach es X.env := by rfl) (hpl : (backTo pos (starEach es X.env)).any (·.1) = false := by rfl) : PE X (.Call (.Name x pp) (e :: es) [] pos) (tF r items) := by
  obtain ⟨f, fd, hm, hk, hbd, Fk⟩ := G.ex
  exact (pe_call Fk hr hg hm hk hbd .nil pass0 ha hdb he hpl (E := E0)).wkS fun σ H QQ ⟨B, D, E, kk⟩ => ⟨B, D, E, fun vs H1 s1 rs => ⟨B, ds, items, D.same s1, by rw [List.append_nil]; exact rs, h, fun p ws H2 s2 hp rs2 => kk p ws H2 (s1.trans s2) hp rs2⟩⟩
theorem pm_callE {j : Nat} {x : Str} {ps : List Str} {Pre : List PyData → Prop} {F : List PyData → PyData → Prop} {pp : Pos} (G : Has X.prog X.w X.K X.mg X.base CX0 j x ps (spE Pre F)) (hr : Room j X.A) (ha : PA X (e :: es) (tA r ds)) (hp : Pre ds) (hg : Gl X x := by rfl) (hdb : (x == ("__debug__" : Str)) = false := by decide)
    (he : starEach (e :: es) X.env = (false, eval e X.env) :: starEach es X.env := by rfl) (hpl : (backTo pos (starEach es X.env)).any (·.1) = false := by rfl) : PM X B sl m r (.Call (.Name x pp) (e :: es) [] pos) (F ds) := by
  obtain ⟨f, fd, hm, hk, hbd, Fk⟩ := G.ex
  exact (pe_call Fk hr hg hm hk hbd .nil pass0 ha hdb he hpl (E := E0)).wkS fun σ H QQ ⟨a, kk⟩ => ⟨B, a.1, a.2.1, fun vs H1 s1 rs => ⟨B, ds, a.1.same s1, by rw [List.append_nil]; exact rs, hp, fun v H2 d s2 hF rv => kk v H2 d (s1.trans s2) hF rv⟩⟩
theorem z_setM (i : Nat) {x : Str} {pos' : Pos} (hm : Kp [] m) (he : PM X B sl m r e P) (hr : ∀ d, P d → PSs X rest (tZ (AD B sl m (r.set i (some d))) N R)) (hN : X.N.Nodup) (hsl : sl.all (fun q => !decide (q.1 = i)) = true := by rfl) (hi : X.N[i]? = some x := by rfl) (hx : Loc X.env.scope x := by first | exact Or.inl rfl | exact Or.inr rfl) (hs : swapsWith e (some (.Name x pos')) pos.line X.env = pure false := by rfl)
    (hf : X.fn x = true ∨ X.env.scope.names.lookup x = some .local := by first | exact .inl rfl | exact .inr rfl) : PSs X (.Assign [.Name x pos'] e pos :: rest) (tZ (AD B sl m r) N R) := by
  have h2 : PSs X rest (tZ (fun σ H => ∃ d, P d ∧ AD B sl m (r.set i (some d)) σ H) N R) := z_ex hr
  exact z_set i (R1 := fun σ v H' => ∃ d, P d ∧ AD B sl m r σ H' ∧ Rp B H' v d) (he.wkS fun σ H Q ⟨a, k⟩ => ⟨a, fun v H' d s pd rv => k v H' ⟨d, pd, a.same s hm, rv⟩⟩) (z_pre h2 fun σ H ⟨σ0, v, ⟨d, pd, a, rv⟩, e⟩ => by subst e; exact ⟨d, pd, a.set rv hsl⟩) hN hi hx hs hf
theorem pzt_val (h : PZ X B sl b fr r e k fun d => d = .bool p) (he : ∀ whole, isTrue e X.env whole = (do let v ← whole; standAt e.pos; holding [v] (truthy v)) := by intro _; rfl) : PZT X B sl b fr r e k (fun x => x = p) := fun n =>
  (pt_val (h n) he).wkS fun σ H Q ⟨a, kk⟩ => ⟨a, fun v H' d k1 pd a1 rv => by
    subst pd
    cases rv
    exact ⟨p, rfl, kk p H' k1 rfl a1⟩⟩
theorem pzt_not (h : PZT X B sl b fr r a k fun x => x = p) : PZT X B sl b fr r (.UnaryOp .Not a pos) k (fun x => x = !p) := fun n =>
  (pt_not (h n)).wkS fun σ H Q ⟨a, kk⟩ => ⟨a, fun c H' k1 pc a1 => kk (!c) H' k1 (by rw [pc]) a1⟩
theorem z_ifNoK {A1 : List Stmt} {n : Nat} (hc : PZT X B sl b fr r c k (fun x => x = false)) (hr : PSs X rest (tZ (AD B sl (BF b n fr) r) N R)) : PSs X (.If c A1 [] pos :: rest) (tZ (AD B sl (BF b (n + k) fr) r) N R) := by
  refine z_if (R1 := fun σ c H' => c = false ∧ AD B sl (BF b n fr) r σ H') (M := AD B sl (BF b n fr) r) ((hc n).wkS fun σ H Q ⟨a, k⟩ => ⟨a, fun c H' _ pc a' => k c H' ⟨pc, a'⟩⟩) ⟨fun pins s σ H Dn I z => ?_⟩ (z_nil fun σ H h => h.2) hr
  obtain ⟨⟨e, _⟩, _⟩ := z
  cases e
theorem cd_all {ys : List Bool} {t : Bool} (hc : X.calm = true) (ht : ys.all id = t) : ∃ r2, CallR X (.builtin "all") r2 ∧ CaD r2 [.list (ys.map .bool)] (.bool t) := by
  refine ⟨_, cr_all hc, ?_⟩
  intro B H xs Q D rs k
  obtain ⟨x, e, rx⟩ := rs.one_inv
  subst e
  obtain ⟨a, zs, e, h, n, s⟩ := rx.list_inv
  subst e
  have := s.bls
  subst this
  exact ⟨a, ys, rfl, .inl h, by rw [ht]; exact k _ H (Same.refl H) (.bl _)⟩
end
end Sv
/-! part R7 -/
set_option Elab.async false
set_option linter.all false
set_option maxRecDepth 100000
set_option maxHeartbeats 8000000
namespace Sv
open PySem PySem.Spec PyProof.Rows L2
section
variable {P : Program} {w : World} {K : PySem.W.Frag} {mg : Str → Option Value} {base : Heap}
def F49L : List PyData → List PyData → Prop := fun ds items => ∃ (cs : List Int) (k : Nat) (c : Int), ds = [.list (cs.map .int), .int (k : Nat)] ∧ cs[k]? = some c ∧ k < 100 ∧ items = [.int (boxX c), .int (boxY c k), .int 0]
theorem ok_boxL {f : Addr} {fd : FuncData} (F : FnP K "_law_box" (top 49) f fd) (T : Tx mg) : FnOk P w K mg base CX0 1 f fd ["_law_script", "_law_k"] (spL F49L) := by
  refine F.ok sc49 (fun vs H Q E h => ?_) (fun cdv A outer s H vs Q E hr h => ?_)
  · obtain ⟨B, ds, items, D, rs, ⟨cs, k, c, e, _⟩, _⟩ := h
    rw [e] at rs
    exact rs.length
  · obtain ⟨B, ds, items, D, rs, ⟨cs, k, c, rfl, hc, hk, rfl⟩, kk⟩ := h
    have body : PSs (cxOf CX0 P w K mg base N49 "_law_box" (defScope (top 49)) f cdv A outer s H E).nox (defBody (top 49)) (tZ (AD B [] (Keep [] H) [some (.list (cs.map .int)), some (.int (k : Nat)), none]) (fun _ _ => False)
      (fun v H' => ∃ p ws H2, v = .ref p ∧ H' = upd H2 p (.lst ws) ∧ Keep [] H H2 ∧ H2 p = none ∧ Rps B H2 ws [.int (boxX c), .int (boxY c k), .int 0])) := by
      have kb : Kp [] (Keep [] H) := Kp.base fun a ha => by cases ha
      have hlt : k < cs.length := (List.getElem?_eq_some_iff.mp hc).1
      have hat : L2.atI (cs.map PyData.int) ((k : Nat) : Int) = some (.int c) := by
        unfold L2.atI ixN
        rw [if_pos (Int.natCast_nonneg _), if_pos (by rw [List.length_map]; omega)]
        show (cs.map PyData.int)[(k : Int).toNat]? = _
        rw [Int.toNat_natCast, List.getElem?_map, hc]
        rfl
      refine z_setD (d := .int c) 2 kb (de_of (de_if (p := true) (d2 := .none) (dt_of (dt_cmp op_lt od_lt (de_var 1 rfl) (de_lenL T.len (de_var 0 rfl)) (nomark _)) (decide_eq_true (by rw [List.length_map]; omega))) (fun _ => de_ixL hat (de_var 0 rfl) (de_var 1 rfl)) (fun h => nomatch h)) rfl) ?_ sc49.nd
      have h1 : ∀ p : Bool, (-(2 ^ 64) : Int) < (if p then (1 : Int) else 0) ∧ (if p then (1 : Int) else 0) < 2 ^ 64 := fun p => by cases p <;> exact ⟨by decide, by decide⟩
      refine z_ret (R1 := fun σ v H' => ∃ p ws H2, v = .ref p ∧ H' = upd H2 p (.lst ws) ∧ Keep [] H H2 ∧ H2 p = none ∧ Rps B H2 ws [.int (boxX c), .int (boxY c k), .int 0]) ((df_lst (da_cons (de_mul (.inr (h1 _)) (de_abs T.abs (de_var 2 rfl)) (de_intB T.int (de_cmp op_ge od_ge (de_abs T.abs (de_var 2 rfl)) (de_pow ⟨⟨by decide, by decide⟩, by decide⟩ de_int de_int) (nomark _)))) (da_cons (de_add (de_add (de_mod (by decide) (de_intI T.int (de_var 2 rfl)) de_int) (de_mul (.inl ⟨by decide, by decide⟩) de_int (de_var 1 rfl))) de_int) (da_cons de_int da_nil))) (sz_ok rfl)).wkS fun σ H Q ⟨a, kk⟩ => ⟨B, a.1, a.2.1, fun p vs H' s hp rs => kk (.ref p) _ ⟨p, vs, H', rfl, rfl, kb.same s a.2.2.2, hp, rs⟩⟩) fun σ v H' h => h
    refine ⟨_, PSs.nox body, ⟨D, ?_, (fun q hq => by cases hq), fun b o _ e => e⟩, fun σ' H' e => e.elim, fun v H' ⟨p, ws, H2, e1, e2, q1, q2, q3⟩ => by
      subst e1
      subst e2
      exact kk p ws H2 (fun b o e => q1 b o (by simp) e) q2 q3⟩
    have e := rs.length
    unfold L2.start
    rw [e]
    exact er_start 1 rs
/-! ### law -/
abbrev N72 : List Str := ["_law_script", "_law_cells_here", "_law_k", "_law_box_here", "_law_turn"]
theorem sc72 : FnScope N72 ["_law_script"] (defScope (top 72)) := ⟨rfl, rfl, rfl, by decide +kernel, rfl, by decide +kernel, by decide +kernel⟩
def spLaw : Sp := fun vs H Q _ => ∃ (a : Addr) (ns : List Int), vs = [.ref a] ∧ H a = some (.lst (ns.map V.int)) ∧ ns.length ≤ 1000 ∧ ∀ H', Q (.bl true) H'
theorem all_true {es : List PyData} (h : ∀ e ∈ es, e = .bool true) : es = (es.map fun _ => true).map PyData.bool ∧ (es.map fun _ => true).all id = true := by
  refine ⟨?_, ?_⟩
  · rw [List.map_map]
    conv => lhs; rw [← List.map_id es]
    exact List.map_congr_left fun e he => h e he
  · rw [List.all_map]
    exact List.all_eq_true.mpr fun _ _ => rfl
theorem ok_law {f : Addr} {fd : FuncData} (F : FnP K "law" (top 72) f fd) (T : Tx mg) (G51 : Has P w K mg base CX0 9 "_law_cells" ["_law_script", "_law_most"] (spE P51 F51)) (G49 : Has P w K mg base CX0 9 "_law_box" ["_law_script", "_law_k"] (spL F49L)) (G71 : Has P w K mg base CX0 9 "_law_right" ["_law_box_here"] (spB (fun ds => ds = []) F71 2000)) : FnOk P w K mg base CX0 10 f fd ["_law_script"] spLaw := by
  refine F.ok sc72 (fun vs H Q E h => ?_) (fun cdv A outer s H vs Q E hr h => ?_)
  · obtain ⟨a, ns, rfl, _⟩ := h
    rfl
  · obtain ⟨a, ns, rfl, ha, hns, kk⟩ := h
    have body : PSs (cxOf CX0 P w K mg base N72 "law" (defScope (top 72)) f cdv A outer s H E).nox (defBody (top 72)) (tZ (AD [] [] (fun _ => True) [some (.list (ns.map .int)), none, none, none, none]) (fun _ _ => False) (fun v H' => v = .bl true)) := by
      have k0 : Kp [] (fun _ : Hp => True) := fun _ _ _ _ => trivial
      refine z_setM 1 k0 (pm_callE G51 hr (da_cons (de_var 0 rfl) (da_cons de_int da_nil)) ⟨ns, rfl, hns⟩) (fun d hd => ?_) sc72.nd
      obtain ⟨xs, rfl, hx0, hx1⟩ := hd
      refine z_pre (A := AD [] [] (fun _ => True) [none, some (.list (xs.map .int)), none, none, none]) ?_ fun σ H h => h.drop 0
      refine z_forH (κ := Unit) (ws := [2]) (fun _ _ => True) (fun _ _ _ => True) (fun _ _ => [none, some (.list (xs.map .int)), none, none, none]) (fun i _ => [none, some (.list (xs.map .int)), some (.int (i : Nat)), none, none]) () trivial PassesOwn.never rfl (fun _ _ => k0) (di_range (n := xs.length) (by omega) T.range (de_of (de_lenL T.len (de_var 1 rfl)) (by rw [List.length_map]))) (pg_name (i := 2) sc72.nd rfl (Or.inl rfl)) (fun i _ d hd _ => ?_) rfl (fun H1 i _ hi _ => ?_) (fun _ _ => ?_)
      · obtain ⟨_, e⟩ := rangeD_get hd
        subst e
        exact gd_name
      · rw [rangeD_len] at hi
        have kb : Kp [] (Keep [] H1) := Kp.base fun a ha => by cases ha
        obtain ⟨c, hc⟩ : ∃ c, xs[i]? = some c := ⟨_, List.getElem?_eq_getElem hi⟩
        refine z_pre (A := AD [] [] (Keep [] H1) [none, some (.list (xs.map .int)), some (.int (i : Nat)), none, none]) ?_ fun σ H h => h.imp fun H z => z.2
        refine z_new 3 (fun q => H1 q = none) (fun H q D k hq => ?_) kb (de_callL G49 ⟨xs, i, c, rfl, hc, by omega, rfl⟩ hr (da_cons (de_var 1 rfl) (da_cons (de_var 2 rfl) da_nil))) (fun q hq0 _ => ?_) (Nat.le_of_ble_eq_true rfl) sc72.nd
        · cases e : H1 q with
          | none => rfl
          | some o => rw [k q o (by simp) e] at hq; cases hq
        have kq : Kp [q] (Keep [] H1) := Kp.base fun a ha => by rw [List.mem_singleton] at ha; exact .inr (by rw [ha]; exact hq0)
        have hbB : q ∈ [q] := List.mem_singleton.mpr rfl
        have hmb : ((3 : Nat), q) ∈ [((3 : Nat), q)] := List.mem_singleton.mpr rfl
        refine z_pre (A := AD [q] [(3, q)] (BF q (0 + 2000) (Keep [] H1)) [none, some (.list (xs.map .int)), some (.int (i : Nat)), none, none]) ?_ fun σ H h => h.imp fun H z => ?_
        · refine z_ifNoK (k := 2000) (n := 0) (pzt_not (p := true) (pzt_val (p := true) ?_)) (z_nil fun σ H h => ⟨(), trivial, ?_⟩)
          · refine pz_imp (k1 := (2000 + 0) * (rangeD 1).length + 0) (P1 := fun d => d = .bool true) (pz_callB (cr_all rfl) (fun ds hd => ?_) kb T.all (by decide +kernel) (pza_cons hbB (pz_lc (N0 := N72) (sc0 := defScope (top 72)) (k2 := 2000 + 0) (P2 := fun _ d => d = .bool true) 4 hbB kq rfl sc72.nd (by decide +kernel) (by rw [rangeD_len, sizeLine_eq]; decide) (di_range (n := 1) (by omega) T.range de_int) rfl (fun d hd q' f hq' hf' s H C cl fp => ?_)) (pza_D da_nil kb))) (by rw [rangeD_len]; decide) (fun d h => h)
            · obtain ⟨d1, t1, rfl, ⟨es, ho, rfl⟩, e2⟩ := hd
              subst e2
              obtain ⟨h1, h2⟩ := all_true (es := es) fun e he => by
                obtain ⟨_, _, _, h⟩ := ho.mem e he
                exact h
              refine ⟨_, rfl, ?_⟩
              generalize (es.map fun _ => true) = ys at h1 h2
              subst h1
              intro B H xs Q D rs k
              obtain ⟨x, e, rx⟩ := rs.one_inv
              subst e
              obtain ⟨a, zs, e, h, n, s⟩ := rx.list_inv
              subst e
              have := s.bls
              subst this
              exact ⟨a, ys, rfl, .inl h, by rw [h2]; exact k _ H (Same.refl H) (.bl _)⟩
            · exact pz_imp (pz_call G71 hr (List.mem_cons_of_mem _ hbB) hmb hf' (pza_D da_nil (hf'.less fun a ha => by cases ha)) (fun ds hd => hd)) (Nat.le_refl _) (fun d ⟨ds, _, h⟩ => h)
          · have hh := (h.drop 2)
            exact ⟨(fun a ha => by cases ha), hh.2.1.less, (fun q hq => by cases hq), trivial, hh.2.2.2.2⟩
        · obtain ⟨⟨vs, e1, rs⟩, hk⟩ := z
          have e2 := Rps.ints (xs := [boxX c, boxY c i, 0]) rs
          subst e2
          exact ⟨⟨_, _, 0, e1, Int.le_refl _, by omega⟩, hk⟩
      · exact z_ret (z_D de_bl k0) fun σ v H' qq => by
          have := qq.2
          cases this
          rfl
    refine ⟨_, PSs.nox body, ⟨(fun a ha => by cases ha), ?_, (fun q hq => by cases hq), trivial⟩, fun σ' H' e => e.elim, fun v H' e => by rw [e]; exact kk H'⟩
    exact er_start (B := []) (H := H) (vs := [V.ref a]) (ds := [.list (ns.map .int)]) 4 (.cons (.lst ha (by simp) (Rps.int ns)) .nil)
end
end Sv
/-! part Q1 -/
set_option Elab.async false
set_option linter.all false
set_option maxRecDepth 100000
set_option maxHeartbeats 8000000
namespace Sv
open PySem PySem.Spec PyProof.Rows L2
/-! ### ANSWERS, told by a Bool -/
def entA (e : DictEntry) : Option (Option Bool × Int × Str) := match e.key, e.val with
  | .none, .str z _ => some (none, e.hash, z)
  | .bool b, .str z _ => some (some b, e.hash, z)
  | _, _ => none
def wantA : List (Option (Option Bool × Int × Str)) := [some (some true, hashInt 1, "yes"), some (some false, hashInt 0, "no"), some (none, reduceHash 0xFCA86420, "?")]
def adB (K : PySem.W.Frag) : Bool := match K.lookup (He.ga K "ANSWERS") with
  | some ⟨.type c, none, .dict es _, sl⟩ => decide (c = "dict") && (sl.isEmpty && decide (es.toList.map entA = wantA))
  | _ => false
theorem entA_of {e : DictEntry} {o : Option Bool} {h : Int} {z : Str} (q : entA e = some (o, h, z)) : (∃ t, e.val = .str z t) ∧ e.hash = h ∧ e.key = (match o with | none => Value.none | some b => .bool b) := by
  obtain ⟨hs, k, v⟩ := e
  unfold entA at q
  dsimp only at q
  split at q
  · cases q
    exact ⟨⟨_, rfl⟩, rfl, rfl⟩
  · cases q
    exact ⟨⟨_, rfl⟩, rfl, rfl⟩
  · cases q
theorem adB_ok {P : Program} {w : World} {K : PySem.W.Frag} {mg : Str → Option Value} (h : adB K = true) (hm : mg "ANSWERS" = some (.ref (He.ga K "ANSWERS"))) : Ad P w K mg := by
  unfold adB at h
  split at h
  · rename_i c es n sl q
    obtain ⟨h1, h2⟩ := Bool.and_eq_true_iff.mp h
    obtain ⟨h3, h4⟩ := Bool.and_eq_true_iff.mp h2
    have e1 : c = "dict" := of_decide_eq_true h1
    have e2 : sl = #[] := Array.isEmpty_iff.mp h3
    have e3 : es.toList.map entA = wantA := of_decide_eq_true h4
    subst e1 e2
    obtain ⟨l⟩ := es
    dsimp only at e3
    obtain ⟨a, b, c, rfl⟩ : ∃ a b c, l = [a, b, c] := by
      have hl : l.length = 3 := by
        have := congrArg List.length e3
        rw [List.length_map] at this
        exact this
      clear e3 q h h4
      cases l with
      | nil => cases hl
      | cons a l => cases l with
        | nil => cases hl
        | cons b l => cases l with
          | nil => cases hl
          | cons c l => cases l with
            | nil => exact ⟨a, b, c, rfl⟩
            | cons d l => simp at hl
    have ea : entA a = some (some true, hashInt 1, ("yes" : Str)) := (List.cons.inj e3).1
    have eb : entA b = some (some false, hashInt 0, ("no" : Str)) := (List.cons.inj (List.cons.inj e3).2).1
    have ec : entA c = some (none, reduceHash 0xFCA86420, ("?" : Str)) := (List.cons.inj (List.cons.inj (List.cons.inj e3).2).2).1
    obtain ⟨⟨ta, va⟩, ha, ka⟩ := entA_of ea
    obtain ⟨⟨tb, vb⟩, hb, kb⟩ := entA_of eb
    obtain ⟨⟨tc, vc⟩, hc, kc⟩ := entA_of ec
    obtain ⟨h_a, k_a, v_a⟩ := a
    obtain ⟨h_b, k_b, v_b⟩ := b
    obtain ⟨h_c, k_c, v_c⟩ := c
    dsimp only at va ha ka vb hb kb vc hc kc
    subst va ha ka vb hb kb vc hc kc
    refine ⟨⟨_, _, n, hm, q, fun e he => ?_, fun o => ?_⟩⟩
    · obtain ⟨he'⟩ := he
      simp only [List.mem_cons, List.not_mem_nil, or_false] at he'
      rcases he' with z | z | z <;> subst z
      · exact ⟨.num 1, rfl, rfl⟩
      · exact ⟨.num 0, rfl, rfl⟩
      · exact ⟨.none, rfl, rfl⟩
    · cases o with
      | none => exact ⟨tc, rfl⟩
      | some b => cases b <;> exact ⟨_, rfl⟩
  · cases h
/-! ### WORDS, told by a Bool -/
def entW (e : DictEntry) : Option (Str × Option Bool) := match e.key, e.val with
  | .str z _, .none => some (z, none)
  | .str z _, .bool b => some (z, some b)
  | _, _ => none
def wantW : List (Option (Str × Option Bool)) := [some ("yes", some true), some ("no", some false), some ("?", none)]
def wdB (K : PySem.W.Frag) : Bool := match K.lookup (He.ga K "WORDS") with
  | some ⟨_, _, .dict es _, _⟩ => decide (es.toList.map entW = wantW)
  | _ => false
def valW : Option Bool → Value
  | none => .none
  | some b => .bool b
theorem entW_of {e : DictEntry} {z : Str} {o : Option Bool} (q : entW e = some (z, o)) : (∃ t, e.key = .str z t) ∧ e.val = valW o := by
  obtain ⟨hs, k, v⟩ := e
  unfold entW at q
  dsimp only at q
  split at q
  · cases q
    exact ⟨⟨_, rfl⟩, rfl⟩
  · cases q
    exact ⟨⟨_, rfl⟩, rfl⟩
  · cases q
theorem rel_valW : ∀ o : Option Bool, RelV (ansV o) (valW o)
  | none => rfl
  | some true => rfl
  | some false => rfl
theorem wdB_ok {w : World} {K : PySem.W.Frag} {mg : Str → Option Value} (h : wdB K = true) (hm : mg "WORDS" = some (.ref (He.ga K "WORDS"))) (D : ∃ es n, KDict K w (He.ga K "WORDS") es n) : Wd K w mg := by
  obtain ⟨es, n, D⟩ := D
  unfold wdB at h
  rw [D.at_] at h
  have e3 : es.toList.map entW = wantW := of_decide_eq_true h
  obtain ⟨l⟩ := es
  dsimp only at e3
  obtain ⟨a, b, c, rfl⟩ : ∃ a b c, l = [a, b, c] := by
    have hl : l.length = 3 := by
      have := congrArg List.length e3
      rw [List.length_map] at this
      exact this
    clear e3 h D
    cases l with
    | nil => cases hl
    | cons a l => cases l with
      | nil => cases hl
      | cons b l => cases l with
        | nil => cases hl
        | cons c l => cases l with
          | nil => exact ⟨a, b, c, rfl⟩
          | cons d l => simp at hl
  have ea : entW a = some (("yes" : Str), some true) := (List.cons.inj e3).1
  have eb : entW b = some (("no" : Str), some false) := (List.cons.inj (List.cons.inj e3).2).1
  have ec : entW c = some (("?" : Str), none) := (List.cons.inj (List.cons.inj (List.cons.inj e3).2).2).1
  obtain ⟨⟨ta, ka⟩, va⟩ := entW_of ea
  obtain ⟨⟨tb, kb⟩, vb⟩ := entW_of eb
  obtain ⟨⟨tc, kc⟩, vc⟩ := entW_of ec
  obtain ⟨h_a, k_a, v_a⟩ := a
  obtain ⟨h_b, k_b, v_b⟩ := b
  obtain ⟨h_c, k_c, v_c⟩ := c
  dsimp only at va ka vb kb vc kc
  subst va ka vb kb vc kc
  refine ⟨⟨_, _, n, hm, D, fun z => ?_⟩⟩
  have e : PySem.W.nsIn K (He.ga K "WORDS") z = (match ([⟨h_a, .str "yes" ta, valW (some true)⟩, ⟨h_b, .str "no" tb, valW (some false)⟩, ⟨h_c, .str "?" tc, valW none⟩] : List DictEntry).find? (·.key.isStr z) with
      | some e => some (some e.val)
      | none => some none) := by
    unfold PySem.W.nsIn
    rw [D.at_] <;> rfl
  rw [e]
  unfold ansS
  by_cases h1 : z = "yes"
  · subst h1
    exact ⟨some (valW (some true)), rfl, rel_valW (some true)⟩
  · rw [if_neg h1]
    have n1 : (("yes" : Str) == z) = false := beq_eq_false_iff_ne.mpr (Ne.symm h1)
    by_cases h2 : z = "no"
    · subst h2
      exact ⟨some (valW (some false)), rfl, rel_valW (some false)⟩
    · rw [if_neg h2]
      have n2 : (("no" : Str) == z) = false := beq_eq_false_iff_ne.mpr (Ne.symm h2)
      by_cases h3 : z = "?"
      · subst h3
        exact ⟨some (valW none), rfl, rel_valW none⟩
      · rw [if_neg h3]
        have n3 : (("?" : Str) == z) = false := beq_eq_false_iff_ne.mpr (Ne.symm h3)
        refine ⟨none, ?_, trivial⟩
        rw [List.find?_cons_of_neg (by show ¬ ((("yes" : Str) == z) = true); rw [n1]; exact Bool.false_ne_true), List.find?_cons_of_neg (by show ¬ ((("no" : Str) == z) = true); rw [n2]; exact Bool.false_ne_true), List.find?_cons_of_neg (by show ¬ ((("?" : Str) == z) = true); rw [n3]; exact Bool.false_ne_true)] <;> rfl
end Sv
/-! part R8 -/
set_option Elab.async false
set_option linter.all false
set_option maxRecDepth 100000
set_option maxHeartbeats 8000000
/-! the script: a list that may only be read (frozen) -/
namespace Sv
open PySem PySem.Spec PyProof.Rows L2
def tDM (B : List Addr) (sl : List (Nat × Addr)) (m : Hp → Prop) (r : Rho) (d : PyData) : TE := fun σ H Q => AD B sl m r σ H ∧ ∀ v H', Same H H' → Rp B H' v d → Q v H'
def tFM (B : List Addr) (sl : List (Nat × Addr)) (m : Hp → Prop) (r : Rho) (ds : List PyData) : TE := fun σ H Q => AD B sl m r σ H ∧ ∀ p vs H', Same H H' → H' p = none → Rps B H' vs ds → Q (.ref p) (upd H' p (.lst vs))
def tIM (B : List Addr) (sl : List (Nat × Addr)) (m : Hp → Prop) (r : Rho) (ds : List PyData) : TI := fun σ H R => AD B sl m r σ H ∧ ∀ J H1, Same H H1 → Gives B H1 J ds → R J H1
section
variable {X : Cx} {r : Rho} {d d1 d2 : PyData} {e c a o : Expr} {es : List Expr} {ds ds2 : List PyData} {pos : Pos} {p : Bool} {B : List Addr} {sl : List (Nat × Addr)} {m : Hp → Prop} {A N M : As} {R : V → Hp → Prop} {rest : List Stmt} {q : Addr}
theorem rd_same {H H' : Hp} {b : Addr} {u : HO} (s : Same H H') (h : Rd H b u) : Rd H' b u := (Keep.of (B := []) s).rd (by simp) h
theorem dm_slS (i : Nat) {b : Addr} {cs : List Int} {x : Str} {lo hi : Option Expr} {u v : Option Int} {p1 p2 : Pos} (hb : (i, b) ∈ sl) (hrd : ∀ H, m H → Rd H b (.lst (cs.map V.int))) (hl : PO X lo (tP r u)) (hu : PO X hi (tP r v)) (hN : X.N[i]? = some x := by rfl) (hv : Vis X.env.scope x := by first | exact Or.inl rfl | exact Or.inr (Or.inl rfl) | exact Or.inr (Or.inr rfl)) (hd : (x == ("__debug__" : Str)) = false := by decide)
    (hcd : (x == ("__classdict__" : Str)) = false := by decide) : PE X (.Subscript (.Name x p1) (.Slice lo hi none p2) pos) (tDM B sl m r (.list (cutD (cs.map .int) u v))) := (pe_slice sl_list (pe_var hN hv hd hcd) hl hu).wkS fun σ H Q ⟨A, k⟩ =>
  ⟨.ref b, A.2.2.1 _ hb, B, A.1, A.2.1, fun H1 s1 => ⟨B, A.1.same s1, A.2.1.same s1, fun H2 s2 => ⟨b, cs.map V.int, rfl, .inl (rd_same (s1.trans s2) (hrd H A.2.2.2)), fun p hp => k _ _ (s1.trans (s2.trans (same_new hp))) (Rp.lst_new hp ((A.1.same s1).same s2) ((Rps.int cs).cut u v))⟩⟩⟩
theorem dm_of (h : PE X e (tDM B sl m r d1)) (hd : d1 = d) : PE X e (tDM B sl m r d) := by
  subst hd
  exact h
theorem df_listM {pp : Pos} (hm : X.mg "list" = none) (h : PE X e (tDM B sl m r (.list ds))) (hg : Gl X "list" := by rfl) (he : starEach [e] X.env = (false, eval e X.env) :: starEach [] X.env := by rfl) (hpl : (backTo pos (starEach [] X.env)).any (·.1) = false := by rfl) : PE X (.Call (.Name "list" pp) [e] [] pos) (tFM B sl m r ds) :=
  (pe_callTy call_list_of hg hm (by decide +kernel) (pa_cons h pa_nil he) (by decide) (by decide) he hpl).wkS fun σ H Q ⟨A, k⟩ => ⟨A, fun v H1 s rv => by
    obtain ⟨a, xs, e, h, n, rs⟩ := rv.list_inv
    subst e
    exact ⟨a, xs, rfl, .inl (.inl h), fun l hl => k l xs H1 s hl rs⟩⟩
theorem df_orM {rs_ : List Expr} (ha : PE X a (tFM B sl m r ds)) (hb : PE X (.BoolOp .Or (c :: rs_) pos) (tF r ds2)) : PE X (.BoolOp .Or (a :: c :: rs_) pos) (tFM B sl m r (if ds.isEmpty then ds2 else ds)) := (pe_orT ha hb).wkS fun σ H Q ⟨A, k⟩ => ⟨A, fun l vs H1 s hl rs => by
  refine ⟨_, .inl ⟨vs, .inl (.inl upd_same), rfl⟩, ?_⟩
  cases ds with
  | nil =>
    cases rs
    have s2 := s.trans (same_new (o := .lst []) hl)
    exact iteF ⟨B, A.1.same s2, A.2.1.same s2, fun l2 vs2 H2 s3 h2 r2 => k l2 vs2 H2 (s2.trans s3) h2 r2⟩
  | cons d0 dr =>
    cases rs with
    | cons r1 r2 => exact iteT (k l _ H1 s hl (.cons r1 r2))⟩
theorem z_newM (i : Nat) {x : Str} {pos' : Pos} (G : Addr → Prop) (hG : ∀ H q, Dom B H → m H → H q = none → G q) (hm : Kp [] m) (he : PE X e (tFM B sl m r ds)) (hr : ∀ q, G q → q ∉ B → PSs X rest (tZ (AD (q :: B) ((i, q) :: sl) (fun H => ML (q :: B) q ds H ∧ m H) (r.set i none)) N R)) (hil : i < r.length) (hN : X.N.Nodup) (hsl : sl.all (fun q => !decide (q.1 = i)) = true := by rfl) (hi : X.N[i]? = some x := by rfl) (hx : Loc X.env.scope x := by first | exact Or.inl rfl | exact Or.inr rfl) (hs : swapsWith e (some (.Name x pos')) pos.line X.env = pure false := by rfl)
    (hf : X.fn x = true ∨ X.env.scope.names.lookup x = some .local := by first | exact .inl rfl | exact .inr rfl) : PSs X (.Assign [.Name x pos'] e pos :: rest) (tZ (AD B sl m r) N R) := by
  have h2 : PSs X rest (tZ (fun σ H => ∃ q, (G q ∧ q ∉ B) ∧ AD (q :: B) ((i, q) :: sl) (fun H => ML (q :: B) q ds H ∧ m H) (r.set i none) σ H) N R) := z_ex fun q hq => hr q hq.1 hq.2
  exact (pss_cons (ps_set hN hi hx he hs hf) h2).wkS fun Dn σ H ⟨a, k, k2⟩ => ⟨a, fun q vs H1 s1 hq rs => ⟨⟨q, ⟨hG H1 q (a.1.same s1) (hm.same s1 a.2.2.2) hq, (a.1.same s1).out hq⟩, (a.same s1 hm).mk hm hq rs hsl hil⟩, k, k2⟩⟩
theorem di_enumM {pp tpos : Pos} {elts : List Expr} {kk : Nat} (hm : X.mg "enumerate" = none) (h : PE X e (tDM B sl m r (.list ds))) (hg : Gl X "enumerate" := by rfl) (hs : starEach [e] X.env = [(false, eval e X.env)] := by rfl) : PI X (.Tuple elts kk tpos) (.Call (.Name "enumerate" pp) [e] [] pos) (tIM B sl m r (enumD 0 ds)) :=
  (pi_enum hg hm (pa_cons h pa_nil hs) hs).wkS fun σ H R ⟨A, k⟩ => ⟨A, fun v H1 s rv => by
    obtain ⟨a, xs, e, h, n, rs⟩ := rv.list_inv
    subst e
    exact ⟨a, xs, rfl, .inl h, k _ H1 s (gives_enum h n rs)⟩⟩
theorem z_forS {κ : Type} {tg iter : Expr} {body : List Stmt} {g : TG} {ws : List Nat} (C : Nat → κ → Prop) (mm : Nat → κ → Hp → Prop) (u v : Nat → κ → Rho) (k0 : κ) (h0 : C 0 k0) (hp : PassesOwn (model X.prog X.w) X.A X.env X.xe) (hc : X.calm = true) (hm : ∀ i k, Kp [] (mm i k)) (hi : PI X tg iter (tIM B sl (mm 0 k0) (u 0 k0) ds)) (hgp : PG X tg g)
    (hg : ∀ i k d, ds[i]? = some d → C i k → GD g (u i k) d (v i k) ws) (hsl : sl.all (fun q => !ws.contains q.1) = true)
    (hb : ∀ (fr : Hp → Prop), Kp B fr → ∀ i k, i < ds.length → C i k → PSs X body (tZ (AD B sl (fun H => mm i k H ∧ fr H) (v i k)) (fun σ H => ∃ k', C (i + 1) k' ∧ AD B sl (fun H => mm (i + 1) k' H ∧ fr H) (u (i + 1) k') σ H) R))
    (hr : ∀ k, C ds.length k → PSs X rest (tZ (AD B sl (mm ds.length k) (u ds.length k)) N R)) (hs : ∀ x, foldedSetIterable iter X.env x = pure x := by intro _; rfl) :
    PSs X (.For tg iter body [] pos :: rest) (tZ (AD B sl (mm 0 k0) (u 0 k0)) N R) := by
  refine ⟨fun pins s σ H Dn I q => ?_⟩
  obtain ⟨⟨D, E, sls, hm0⟩, k, k2⟩ := q
  have hbe : ∀ H1, PSs X body (tbZ B sl ds.length C mm u v (Keep B H1) R) := fun H1 => PSs.ex (C := fun a : Nat × κ => a.1 < ds.length ∧ C a.1 a.2) fun a ha => hb (Keep B H1) (Kp.base fun b hb => .inl hb) a.1 a.2 ha.1 ha.2
  have hbx : PSs X body (fun Dn σ H => ∃ H1, tbZ B sl ds.length C mm u v (Keep B H1) R Dn σ H) := ⟨fun pins s σ H D I ⟨H1, q⟩ => (hbe H1).run pins s σ H D I q⟩
  have hfor := ps_for (pos := pos) hp hc hi hgp hbx hs
  refine wpAny_execs_cons (thn (hfor.run pins s σ H { Dn with nx := fun σ' H' => ∃ k, C ds.length k ∧ AD B sl (mm ds.length k) (u ds.length k) σ' H' } I ⟨⟨D, E, sls, hm0⟩, fun J H1 s1 gv => ?_⟩) fun f s2 z => ?_)
  · obtain ⟨G, Y, w, hG, hY⟩ := gv.ex
    refine for_it (D := { Dn with nx := fun σ' H' => ∃ k, C ds.length k ∧ AD B sl (mm ds.length k) (u ds.length k) σ' H' }) (g := g) (tb := fun Dn σ H => ∃ H1, tbZ B sl ds.length C mm u v (Keep B H1) R Dn σ H) w (fun i σ2 H2 => ∃ k, C i k ∧ AD B sl (fun H => mm i k H ∧ Keep B H1 H) (u i k) σ2 H2) ⟨k0, h0, D.same s1, E.same s1, sls, (hm 0 k0).same s1 hm0, fun b o _ e => e⟩ (fun i σ2 H2 hi h => ?_) ?_ ?_
    · obtain ⟨k, _, _, _, _, _, kk⟩ := h
      exact hG H2 kk
    · rintro i x σ2 H2 H3 hi ⟨k, ck, D2, E2, sl2, m2, kk⟩ y
      have hd : ds[i]? = some ds[i] := List.getElem?_eq_getElem hi
      obtain ⟨s3, rx⟩ := hY i _ H2 x H3 B hd kk y D2 (fun b hb => hb) (fun b hb => .inl hb)
      refine hg i k _ hd ck B H3 x σ2 _ (D2.same s3) (E2.same s3) rx fun σ3 E3 hσ _ => ?_
      refine ⟨H1, (i, k), ⟨hi, ck⟩, ⟨D2.same s3, E3, fun q hq => ?_, (hm i k).same s3 m2, fun b o n e => s3 b o (kk b o n e)⟩, fun σ' H' n => n, fun v H' q => k2 v H' q⟩
      have z := List.all_eq_true.mp hsl q hq
      rw [hσ q.1 (fun w => by rw [Bool.not_eq_true'] at z; rw [List.contains_iff_mem.mpr w] at z; cases z)]
      exact sl2 q hq
    · rintro σ2 H2 ⟨k, ck, D2, E2, sl2, m2, kk⟩
      exact ⟨k, ck, D2, E2, sl2, m2⟩
  · cases f with
    | next =>
      obtain ⟨σ', H', I', kk, ck, a⟩ := z
      exact (hr kk ck).run pins s2 σ' H' Dn I' ⟨a, k, k2⟩
    | ret v => exact z
    | brk => exact z
    | cont => exact z
end
section
variable {P : Program} {w : World} {K : PySem.W.Frag} {mg : Str → Option Value} {base : Heap}
/-- the promise of _law_cells, the script frozen or not -/
def spC : Sp := fun vs H Q _ => ∃ (a : Addr) (cs : List Int), vs = [.ref a, .int 2] ∧ Rd H a (.lst (cs.map V.int)) ∧ cs.length ≤ 1000 ∧ ∀ v H' d, Same H H' → F51 [] d → Rp [] H' v d → Q v H'
theorem ok_cellsF {f : Addr} {fd : FuncData} (F : FnP K "_law_cells" (top 51) f fd) (T : Tx mg) : FnOk P w K mg base CX0 1 f fd ["_law_script", "_law_most"] spC := by
  refine F.ok sc51 (fun vs H Q E h => ?_) (fun cdv A outer s H0 vs Q E hr h => ?_)
  · obtain ⟨a, cs, rfl, _⟩ := h
    rfl
  · obtain ⟨a, cs, rfl, hrd0, hcs, kk⟩ := h
    have kb : Kp [] (Keep [] H0) := Kp.base fun a ha => by cases ha
    have hrd : ∀ H, Keep [] H0 H → Rd H a (.lst (cs.map V.int)) := fun H k => k.rd (by simp) hrd0
    have body : PSs (cxOf CX0 P w K mg base N51 "_law_cells" (defScope (top 51)) f cdv A outer s H0 E).nox (defBody (top 51)) (tZ (AD [] [(0, a)] (Keep [] H0) [none, some (.int 2), none, none, none, none]) (fun _ _ => False) (fun v H' => ∃ d, F51 [] d ∧ Keep [] H0 H' ∧ Rp [] H' v d)) := by
      obtain ⟨ys, hys, y0, y1, yt⟩ : ∃ ys : List Int, (if (cutD (cs.map PyData.int) none (some 2)).isEmpty then [PyData.int 0] else cutD (cs.map PyData.int) none (some 2)) = ys.map .int ∧ 0 < ys.length ∧ ys.length ≤ 2 ∧ ((cutL cs (some 2) (some 63)).length ≠ 0 → ys.length = 2) := by
        rw [cutD_map]
        have e2 : (2 : Int) = ((2 : Nat) : Int) := rfl
        have l1 : (cutL cs none (some 2)).length = min 2 cs.length := by
          unfold cutL
          rw [e2, HT.sIx_nat, HT.sIx_none, List.drop_zero, List.length_take]
          omega
        have l2 : (cutL cs (some 2) (some 63)).length ≠ 0 → 2 < cs.length := fun h => by
          unfold cutL at h
          rw [List.length_take, List.length_drop, e2, HT.sIx_nat] at h
          omega
        cases hc : cutL cs none (some 2) with
        | nil =>
          rw [hc] at l1
          simp only [List.length_nil] at l1
          exact ⟨[0], rfl, by decide, by decide, fun h => by have := l2 h; omega⟩
        | cons z zs =>
          rw [hc] at l1
          refine ⟨z :: zs, rfl, by simp, by omega, fun h => by have := l2 h; omega⟩
      refine z_newM 2 (fun q => H0 q = none) (fun H q D k hq => ?_) kb (df_orM (df_listM T.list (dm_slS 0 (List.mem_singleton.mpr rfl) hrd dp_none (dp_some (de_var 1 rfl)))) (pe_one (df_lst (da_cons de_int da_nil) (sz_ok rfl)))) (fun q hq0 hqB => ?_) (Nat.le_of_ble_eq_true rfl) sc51.nd
      · cases e : H0 q with
        | none => rfl
        | some o => rw [k q o (by simp) e] at hq; cases hq
      rw [hys]
      have elen : (enumD 0 ((cutL cs (some 2) (some 63)).map PyData.int)).length = (cutL cs (some 2) (some 63)).length := by rw [enumD_length, List.length_map]
      refine z_forS (κ := List Int) (ws := [3, 4]) (fun i a => a.length = ys.length) (fun i a H => ML [q] q (a.map .int) H ∧ Keep [] H0 H)
        (fun i a => [none, some (.int 2), none, none, none, none]) (fun i a => [none, some (.int 2), none, some (.int (i : Nat)), ((cutL cs (some 2) (some 63))[i]?).map .int, none]) ys rfl PassesOwn.never rfl
        (fun i a => kp_ml kb) (di_enumM (ds := (cutL cs (some 2) (some 63)).map PyData.int) T.enumerate (dm_of (dm_slS 0 (List.mem_cons_of_mem _ (List.mem_singleton.mpr rfl)) (fun H h => hrd H h.2) (dp_some (de_var 1 rfl)) (dp_some de_int)) (by rw [cutD_map]))) (pg_tup rfl (pgs_cons (pg_name (i := 3) sc51.nd rfl (Or.inl rfl)) (pgs_cons (pg_name (i := 4) sc51.nd rfl (Or.inl rfl)) pgs_nil)) rfl rfl) (fun i a d hd _ => ?_) rfl (fun fr hfr i a hi hC => ?_) (fun a hC => ?_)
      · obtain ⟨c, e1, rfl⟩ := enum_int hd
        rw [e1]
        exact gd_pair
      · rw [elen] at hi
        obtain ⟨c, e1⟩ : ∃ c, (cutL cs (some 2) (some 63))[i]? = some c := ⟨_, List.getElem?_eq_getElem hi⟩
        rw [e1, Option.map_some]
        have hy2 : a.length = 2 := by rw [hC]; exact yt (by omega)
        have kf : Kp [q] (fun H => Keep [] H0 H ∧ fr H) := Kp.and (Kp.base fun a ha => by rw [List.mem_singleton] at ha; exact .inr (by rw [ha]; exact hq0)) (hfr.less fun a ha => by rw [List.mem_singleton] at ha; rw [ha]; exact List.mem_cons_self)
        have kf0 := kf.less (G := []) fun a ha => by cases ha
        refine z_pre (A := AD [q] _ (fun H => ML [q] q (a.map .int) H ∧ (Keep [] H0 H ∧ fr H)) _) ?_ fun σ H h => h.imp fun H z => ⟨z.1.1, z.1.2, z.2⟩
        have hmod : (((i : Nat) : Int) % 2) = ((i % 2 : Nat) : Int) := by omega
        have hlt : i % 2 < a.length := by omega
        obtain ⟨c0, ha1, ha2⟩ := atI_in hlt
        refine z_setD (d := .int ((i % 2 : Nat) : Int)) 5 (kp_ml kf0) (de_of (de_mod (by decide) (de_intI T.int (de_var 3 rfl)) (de_var 1 rfl)) (by rw [hmod])) ?_ sc51.nd
        have hi63 : (((i : Nat) : Int) + 2) < 2 ^ 64 := by
          have : (cutL cs (some 2) (some 63)).length ≤ 1000 := by
            unfold cutL
            rw [List.length_take, List.length_drop]
            omega
          omega
        refine z_itemV 2 (j := i % 2) (d := .int (c0 + c * (((i : Nat) : Int) + 2))) List.mem_cons_self hqB kf rfl (de_add (de_ixL ha1 (de_var 2 rfl) (de_var 5 rfl)) (de_mul (.inr ⟨by omega, hi63⟩) (de_var 4 rfl) (de_add (de_var 3 rfl) de_int))) (de_var 5 rfl) ha2 (z_nil fun σ H h => ⟨a.set (i % 2) (c0 + c * (((i : Nat) : Int) + 2)), by rw [List.length_set]; exact hC, ?_⟩)
        have hh := ((h.drop 3).drop 4).drop 5
        rw [List.map_set]
        exact hh.imp fun H z => ⟨⟨z.1, z.2.1⟩, z.2.2⟩
      · refine z_frz 2 List.mem_cons_self hqB (z_ret (z_D (de_var 2 rfl) kb) fun σ v H' qq => ⟨_, ⟨a, rfl, by rw [hC]; exact y0, by rw [hC]; exact y1⟩, qq.1.2.2.2, qq.2⟩)
    refine ⟨_, PSs.nox body, ⟨(fun a ha => by cases ha), ?_, (fun q hq => ?_), fun b o _ e => e⟩, fun σ' H' e => e.elim, fun v H' ⟨d, h1, h2, h3⟩ => kk v H' d (fun b o e => h2 b o (by simp) e) h1 h3⟩
    · exact .no (.so (.int 2) (.no (.no (.no (.no .nil)))))
    · rw [List.mem_singleton] at hq
      subst hq
      rfl
/-- the law's promise, the script frozen or not -/
def spLawF : Sp := fun vs H Q _ => ∃ (a : Addr) (ns : List Int), vs = [.ref a] ∧ Rd H a (.lst (ns.map V.int)) ∧ ns.length ≤ 1000 ∧ ∀ H', Q (.bl true) H'
theorem pm_cells {X : Cx} {j : Nat} {B : List Addr} {r : Rho} {a : Addr} {cs : List Int} {m : Hp → Prop} {x2 : Str} {sl : List (Nat × Addr)} {pp p1 p2 pos : Pos} {jj : Nat} (G : Has X.prog X.w X.K X.mg X.base CX0 j "_law_cells" ["_law_script", "_law_most"] spC) (hr : Room j X.A) (hb : (0, a) ∈ sl) (hrd : ∀ H, m H → Rd H a (.lst (cs.map V.int))) (hcs : cs.length ≤ 1000) (hB : B = [])
    (hN : X.N[0]? = some x2 := by rfl) (hv : Vis X.env.scope x2 := by first | exact Or.inl rfl | exact Or.inr (Or.inl rfl) | exact Or.inr (Or.inr rfl)) (hd : (x2 == ("__debug__" : Str)) = false := by decide) (hcd : (x2 == ("__classdict__" : Str)) = false := by decide) (hg : Gl X "_law_cells" := by rfl)
    (he : starEach [.Name x2 p1, .Constant (.int 2) jj p2] X.env = (false, eval (.Name x2 p1) X.env) :: starEach [.Constant (.int 2) jj p2] X.env := by rfl) (he2 : starEach [.Constant (.int 2) jj p2] X.env = (false, eval (.Constant (.int 2) jj p2) X.env) :: starEach [] X.env := by rfl) (hpl : (backTo pos (starEach [.Constant (.int 2) jj p2] X.env)).any (·.1) = false := by rfl) : PM X B sl m r (.Call (.Name "_law_cells" pp) [.Name x2 p1, .Constant (.int 2) jj p2] [] pos) (F51 []) := by
  obtain ⟨f, fd, hm, hk, hbd, Fk⟩ := G.ex
  subst hB
  exact (pe_call Fk hr hg hm hk hbd .nil pass0 (pa_cons (pe_var hN hv hd hcd) (pa_cons pe_int pa_nil he2) he) (by decide) he hpl (E := E0)).wkS fun σ H QQ ⟨A, kk⟩ => ⟨.ref a, A.2.2.1 _ hb, a, cs, rfl, hrd H A.2.2.2, hcs, fun v H' d s hF rv => kk v H' d s hF rv⟩
theorem ok_lawF {f : Addr} {fd : FuncData} (F : FnP K "law" (top 72) f fd) (T : Tx mg) (G51 : Has P w K mg base CX0 9 "_law_cells" ["_law_script", "_law_most"] spC) (G49 : Has P w K mg base CX0 9 "_law_box" ["_law_script", "_law_k"] (spL F49L)) (G71 : Has P w K mg base CX0 9 "_law_right" ["_law_box_here"] (spB (fun ds => ds = []) F71 2000)) : FnOk P w K mg base CX0 10 f fd ["_law_script"] spLawF := by
  refine F.ok sc72 (fun vs H Q E h => ?_) (fun cdv A outer s H vs Q E hr h => ?_)
  · obtain ⟨a, ns, rfl, _⟩ := h
    rfl
  · obtain ⟨a, ns, rfl, ha, hns, kk⟩ := h
    have body : PSs (cxOf CX0 P w K mg base N72 "law" (defScope (top 72)) f cdv A outer s H E).nox (defBody (top 72)) (tZ (AD [] [(0, a)] (fun H => Rd H a (.lst (ns.map V.int))) [none, none, none, none, none]) (fun _ _ => False) (fun v H' => v = .bl true)) := by
      have k0 : Kp [] (fun _ : Hp => True) := fun _ _ _ _ => trivial
      refine z_setM 1 (fun H H' k h => k.rd (by simp) h) (pm_cells G51 hr (List.mem_singleton.mpr rfl) (fun H h => h) hns rfl) (fun d hd => ?_) sc72.nd
      obtain ⟨xs, rfl, hx0, hx1⟩ := hd
      refine z_pre (A := AD [] [] (fun _ => True) [none, some (.list (xs.map .int)), none, none, none]) ?_ fun σ H h => ⟨h.1, h.2.1, (fun q hq => by cases hq), trivial⟩
      refine z_forH (κ := Unit) (ws := [2]) (fun _ _ => True) (fun _ _ _ => True) (fun _ _ => [none, some (.list (xs.map .int)), none, none, none]) (fun i _ => [none, some (.list (xs.map .int)), some (.int (i : Nat)), none, none]) () trivial PassesOwn.never rfl (fun _ _ => k0) (di_range (n := xs.length) (by omega) T.range (de_of (de_lenL T.len (de_var 1 rfl)) (by rw [List.length_map]))) (pg_name (i := 2) sc72.nd rfl (Or.inl rfl)) (fun i _ d hd _ => ?_) rfl (fun H1 i _ hi _ => ?_) (fun _ _ => ?_)
      · obtain ⟨_, e⟩ := rangeD_get hd
        subst e
        exact gd_name
      · rw [rangeD_len] at hi
        have kb : Kp [] (Keep [] H1) := Kp.base fun a ha => by cases ha
        obtain ⟨c, hc⟩ : ∃ c, xs[i]? = some c := ⟨_, List.getElem?_eq_getElem hi⟩
        refine z_pre (A := AD [] [] (Keep [] H1) [none, some (.list (xs.map .int)), some (.int (i : Nat)), none, none]) ?_ fun σ H h => h.imp fun H z => z.2
        refine z_new 3 (fun q => H1 q = none) (fun H q D k hq => ?_) kb (de_callL G49 ⟨xs, i, c, rfl, hc, by omega, rfl⟩ hr (da_cons (de_var 1 rfl) (da_cons (de_var 2 rfl) da_nil))) (fun q hq0 _ => ?_) (Nat.le_of_ble_eq_true rfl) sc72.nd
        · cases e : H1 q with
          | none => rfl
          | some o => rw [k q o (by simp) e] at hq; cases hq
        have kq : Kp [q] (Keep [] H1) := Kp.base fun a ha => by rw [List.mem_singleton] at ha; exact .inr (by rw [ha]; exact hq0)
        have hbB : q ∈ [q] := List.mem_singleton.mpr rfl
        have hmb : ((3 : Nat), q) ∈ [((3 : Nat), q)] := List.mem_singleton.mpr rfl
        refine z_pre (A := AD [q] [(3, q)] (BF q (0 + 2000) (Keep [] H1)) [none, some (.list (xs.map .int)), some (.int (i : Nat)), none, none]) ?_ fun σ H h => h.imp fun H z => ?_
        · refine z_ifNoK (k := 2000) (n := 0) (pzt_not (p := true) (pzt_val (p := true) ?_)) (z_nil fun σ H h => ⟨(), trivial, ?_⟩)
          · refine pz_imp (k1 := (2000 + 0) * (rangeD 1).length + 0) (P1 := fun d => d = .bool true) (pz_callB (cr_all rfl) (fun ds hd => ?_) kb T.all (by decide +kernel) (pza_cons hbB (pz_lc (N0 := N72) (sc0 := defScope (top 72)) (k2 := 2000 + 0) (P2 := fun _ d => d = .bool true) 4 hbB kq rfl sc72.nd (by decide +kernel) (by rw [rangeD_len, sizeLine_eq]; decide) (di_range (n := 1) (by omega) T.range de_int) rfl (fun d hd q' f hq' hf' s H C cl fp => ?_)) (pza_D da_nil kb))) (by rw [rangeD_len]; decide) (fun d h => h)
            · obtain ⟨d1, t1, rfl, ⟨es, ho, rfl⟩, e2⟩ := hd
              subst e2
              obtain ⟨h1, h2⟩ := all_true (es := es) fun e he => by
                obtain ⟨_, _, _, h⟩ := ho.mem e he
                exact h
              refine ⟨_, rfl, ?_⟩
              generalize (es.map fun _ => true) = ys at h1 h2
              subst h1
              intro B H xs Q D rs k
              obtain ⟨x, e, rx⟩ := rs.one_inv
              subst e
              obtain ⟨a, zs, e, h, n, s⟩ := rx.list_inv
              subst e
              have := s.bls
              subst this
              exact ⟨a, ys, rfl, .inl h, by rw [h2]; exact k _ H (Same.refl H) (.bl _)⟩
            · exact pz_imp (pz_call G71 hr (List.mem_cons_of_mem _ hbB) hmb hf' (pza_D da_nil (hf'.less fun a ha => by cases ha)) (fun ds hd => hd)) (Nat.le_refl _) (fun d ⟨ds, _, h⟩ => h)
          · have hh := (h.drop 2)
            exact ⟨(fun a ha => by cases ha), hh.2.1.less, (fun q hq => by cases hq), trivial, hh.2.2.2.2⟩
        · obtain ⟨⟨vs, e1, rs⟩, hk⟩ := z
          have e2 := Rps.ints (xs := [boxX c, boxY c i, 0]) rs
          subst e2
          exact ⟨⟨_, _, 0, e1, Int.le_refl _, by omega⟩, hk⟩
      · exact z_ret (z_D de_bl k0) fun σ v H' qq => by
          have := qq.2
          cases this
          rfl
    refine ⟨_, PSs.nox body, ⟨(fun a ha => by cases ha), ?_, (fun q hq => ?_), ha⟩, fun σ' H' e => e.elim, fun v H' e => by rw [e]; exact kk H'⟩
    · exact .no (.no (.no (.no (.no .nil))))
    · rw [List.mem_singleton] at hq
      subst hq
      rfl
end
end Sv
/-! part Q2 -/
set_option Elab.async false
set_option linter.all false
set_option maxRecDepth 100000
set_option maxHeartbeats 8000000
/-! BadLine's facts told by Bools -/
namespace Sv
open PySem PySem.Spec PyProof.Rows L2
abbrev blA (K : PySem.W.Frag) : Addr := He.ga K "BadLine"
abbrev blI (K : PySem.W.Frag) : Addr := He.ma K (blA K) "__init__"
abbrev InI : Type := Option (Str × Str × Arguments × FuncBody × Scope × Addr × Addr × Value × Value × Str)
def inObs (K : PySem.W.Frag) : InI := match K.lookup (blI K) with
  | some ⟨_, _, .func fd, _⟩ => (match fd.closure, fd.code with
    | [(x, _)], .ref _ => some (fd.name, fd.qualname, fd.params, fd.body, fd.scope, fd.globals, fd.builtins, fd.defaults, fd.kwdefaults, x)
    | _, _ => none)
  | _ => none
def wantI : InI := some ("__init__", "BadLine.__init__", defArgs sBl, .stmts (defBody sBl), defScope sBl, mainGlobals, builtinsNs, .none, .none, "__class__")
def blC (K : PySem.W.Frag) : Addr := match K.lookup (blI K) with
  | some ⟨_, _, .func fd, _⟩ => (match fd.closure with
    | [(_, c)] => c
    | _ => 0)
  | _ => 0
def blO (K : PySem.W.Frag) : Addr := match K.lookup (blI K) with
  | some ⟨_, _, .func fd, _⟩ => (match fd.code with
    | .ref c => c
    | _ => 0)
  | _ => 0
theorem inObs_ok {K : PySem.W.Frag} (h : inObs K = wantI) : ∃ (oc : Value) (od : Option Addr) (doc pm : Value) (an : Option Addr) (ct : Value) (osl : Array (Option Value)),
    K.lookup (blI K) = some ⟨oc, od, .func (PySem.W.ksFn "__init__" "BadLine.__init__" (defArgs sBl) (defBody sBl) (defScope sBl) .none .none doc pm an (.ref (blO K)) ct (blC K)), osl⟩ := by
  unfold inObs at h
  unfold blO blC
  cases q : K.lookup (blI K) with
  | none =>
    rw [q] at h
    cases h
  | some o =>
    obtain ⟨oc, od, dt, osl⟩ := o
    rw [q] at h
    cases dt with
    | func fd =>
      obtain ⟨n1, n2, n3, n4, n5, n6, n7, n8, n9, n10, n11, n12, n13, n14, n15⟩ := fd
      dsimp only at h ⊢
      split at h
      · rename_i x c e
        unfold wantI at h
        simp only [Option.some.injEq, Prod.mk.injEq] at h
        obtain ⟨h1, h2, h3, h4, h5, h6, h7, h8, h9, h10⟩ := h
        subst h1 h2 h3 h4 h5 h6 h7 h8 h9 h10
        exact ⟨oc, od, n10, n11, n12, n14, osl, rfl⟩
      · cases h
    | _ => cases h
def clsB (K : PySem.W.Frag) (C : Addr) : Bool := match K.lookup C with
  | some ⟨.type t, _, .cls cd, sl⟩ => decide (t = "type") && (decide (cd.mro = .ref C :: PySem.HandSPX.veTail) && (!cd.hasDel && (cd.hasDict && (match sl.toList with
    | [_, _, _, _, some (.builtin n), _] => decide (n = "ValueError.__new__")
    | _ => false))))
  | _ => false
theorem clsB_ok {K : PySem.W.Frag} {C : Addr} (h : clsB K C = true) : ∃ nm q N bs sn sub ab col dd k0 k1 k2 k3 k5, K.lookup C = some (excClassObj nm q C N bs PySem.HandSPX.veTail true sn sub ab col dd k0 k1 k2 k3 k5 "ValueError.__new__") := by
  unfold clsB at h
  split at h
  · rename_i t dd cd sl ho
    obtain ⟨h1, h⟩ := He.ba h
    obtain ⟨h2, h⟩ := He.ba h
    obtain ⟨h3, h⟩ := He.ba h
    obtain ⟨h4, h5⟩ := He.ba h
    have e1 : t = "type" := of_decide_eq_true h1
    have e2 := of_decide_eq_true h2
    subst e1
    obtain ⟨nm, bs, mro, ns, qn, hd, sn, sub, ab, col, del⟩ := cd
    dsimp only at e2 h3 h4
    subst e2
    have e3 : del = false := by
      cases del with
      | false => rfl
      | true => cases h3
    subst e3 h4
    split at h5
    · rename_i k0 k1 k2 k3 n k5 hs
      have e5 : n = "ValueError.__new__" := of_decide_eq_true h5
      subst e5
      obtain ⟨l⟩ := sl
      dsimp only at hs
      subst hs
      exact ⟨nm, qn, ns, bs, sn, sub, ab, col, dd, k0, k1, k2, k3, k5, ho⟩
    · cases h5
  · cases h
def filB (file : Str) (K : PySem.W.Frag) : Bool := match K.lookup (blO K) with
  | some ⟨_, _, .fields vs, _⟩ => (match (vs[2]? : Option Value) with
    | some (.str f _) => file == f
    | _ => false)
  | _ => false
theorem filB_ok {file : Str} {K : PySem.W.Frag} (h : filB file K = true) : ∃ cl od vs sl f tf, K.lookup (blO K) = some ⟨cl, od, .fields vs, sl⟩ ∧ vs[2]? = some (.str f tf) ∧ (file == f) = true := by
  unfold filB at h
  split at h
  · rename_i cl od vs sl ho
    split at h
    · rename_i f tf e
      exact ⟨cl, od, vs, sl, f, tf, ho, e, h⟩
    · cases h
  · cases h
def celB (K : PySem.W.Frag) : Bool := match K.lookup (blC K) with
  | some ⟨_, _, .cell (some (.ref c)), _⟩ => decide (c = blA K)
  | _ => false
theorem celB_ok {K : PySem.W.Frag} (h : celB K = true) : ∃ cl cld csl, K.lookup (blC K) = some ⟨cl, cld, .cell (some (.ref (blA K))), csl⟩ := by
  unfold celB at h
  split at h
  · rename_i cl od c sl ho
    have e : c = blA K := of_decide_eq_true h
    subst e
    exact ⟨cl, od, sl, ho⟩
  · cases h
/-- no list stands in K -/
def noLst (K : PySem.W.Frag) : Bool := K.all fun q => match q.2 with
  | ⟨.type c, _, .seq _ _, _⟩ => !(decide (c = "list"))
  | _ => true
theorem noLst_ok {K : PySem.W.Frag} (h : noLst K = true) {a : Addr} {o : Obj} {its : Array Value} {n : Nat} (e : K.lookup a = some o) (hc : o.cls = .type "list") (hd : o.data = .seq its n) : False := by
  have z := List.all_eq_true.mp h _ (He.lookup_mem e)
  obtain ⟨c, d, dt, sl⟩ := o
  dsimp only at hc hd
  subst hc hd
  cases z
def eqB (a b : Option Bool) : Bool := decide (a = b)
/-- what is told of the three classes and of the tables -/
def exL (file : Str) (K : PySem.W.Frag) : List Bool := [clsB K (blA K), He.eqO (PySem.W.findIn K (.ref (blA K)) "__setattr__") (some (some (.builtin "object.__setattr__"))), He.eqO (PySem.W.findIn K (.ref (blA K)) "__getattribute__") (some (some (.builtin "BaseException.__getattribute__"))),
  He.eqO (PySem.W.findIn K (.ref (blA K)) "__getattr__") (some none), He.eqO (PySem.W.findIn K (.ref (blA K)) "number") (some none), He.eqO (PySem.W.findIn K (.ref (blA K)) "__init__") (some (some (.ref (blI K)))),
  decide (PySem.W.typeIn K (.ref (blI K)) = some (.type "function")), PySem.W.keepIn K (.ref (blA K)), decide (PySem.W.subIn K (.ref (blA K)) (.type "BaseException") = some true), decide (PySem.W.subIn K (.ref (blA K)) (.type "ValueError") = some true),
  decide (PySem.W.mroIn K (blA K) (.ref (blA K)) = some true), decide (PySem.W.typeIn K (.ref (blA K)) = some (.type "type")), PySem.W.hasDictIn K (blA K), PySem.W.codeIn K (.ref (blO K)) "BadLine.__init__", filB file K, celB K,
  He.eqO (PySem.W.ks_superIn K (blA K) (blA K) "__init__") (some (some (.builtin "ValueError.__init__"))), He.eqO (PySem.W.nsIn K cStatics "thirdparty.any") (some none),
  (PySem.W.clsIn K (blA K)).isSome, He.eqO (PySem.W.findIn K (.ref (blA K)) "__class__") (some (some (.builtin "object.__class__"))), He.eqO (PySem.W.specialIn K (.builtin "object.__class__") "__get__") (some (some (.builtin "getset_descriptor.__get__"))),
  decide (PySem.W.takesIn K (.builtin "object.__class__") = some true), decide (PySem.W.mroIn K (blA K) (.type "object") = some true),
  decide (PySem.W.exmAny K (.ref (blA K)) [.ref (blA K), .ref (He.ga K "NoSession"), .ref (He.ga K "NoStory")] = some true), decide (PySem.W.kitOne K (.ref (blA K)) (.ref (blA K)) = some true), decide (PySem.W.kitOne K (.ref (blA K)) (.type "ValueError") = some true),
  noLst K, adB K, wdB K]
def exB (file : Str) (K : PySem.W.Frag) : Bool := (exL file K).all fun b => b
theorem ex_at {file : Str} {K : PySem.W.Frag} (h : exB file K = true) (i : Nat) {b : Bool} (e : (exL file K)[i]? = some b) : b = true := List.all_eq_true.mp h b (List.mem_of_getElem? e)
section
variable {prog : Program} {K : PySem.W.Frag} {mg : Str → Option Value}
theorem isC_of (h : exB prog.main.file K = true) : IsC K (blA K) := ⟨ex_at h 18 rfl, He.eqO_ok (ex_at h 2 rfl), He.eqO_ok (ex_at h 3 rfl), of_decide_eq_true (ex_at h 8 rfl), ex_at h 12 rfl, He.eqO_ok (ex_at h 19 rfl), He.eqO_ok (ex_at h 20 rfl), of_decide_eq_true (ex_at h 21 rfl), of_decide_eq_true (ex_at h 22 rfl)⟩
theorem exTxt_of (h : exB prog.main.file K = true) (h2 : mg "NoSession" = some (.ref (He.ga K "NoSession"))) (h3 : mg "NoStory" = some (.ref (He.ga K "NoStory"))) : ExTxt K mg (blA K) :=
  ⟨⟨_, _, h2, h3, of_decide_eq_true (ex_at h 23 rfl)⟩, isC_of h, of_decide_eq_true (ex_at h 24 rfl), of_decide_eq_true (ex_at h 25 rfl)⟩
theorem blTxt_of (h : exB prog.main.file K = true) (hi : inObs K = wantI) (h1 : mg "BadLine" = some (.ref (blA K))) (hs : PySem.W.nsIn K mainGlobals "super" = some none) (ht : (prog.main.scope.names.lookup ("super" : Str)).isSome = false) : BlTxt prog K mg (blA K) (blI K) (blC K) (blO K) where
  gC := h1
  cls := clsB_ok (ex_at h 0 rfl)
  sa := He.eqO_ok (ex_at h 1 rfl)
  ga := He.eqO_ok (ex_at h 2 rfl)
  gg := He.eqO_ok (ex_at h 3 rfl)
  noN := He.eqO_ok (ex_at h 4 rfl)
  iC := He.eqO_ok (ex_at h 5 rfl)
  tC := of_decide_eq_true (ex_at h 6 rfl)
  kC := ex_at h 7 rfl
  exC := of_decide_eq_true (ex_at h 8 rfl)
  veC := of_decide_eq_true (ex_at h 9 rfl)
  meC := of_decide_eq_true (ex_at h 10 rfl)
  tyC := of_decide_eq_true (ex_at h 11 rfl)
  hdC := ex_at h 12 rfl
  fn := inObs_ok hi
  code := ex_at h 13 rfl
  codeF := filB_ok (ex_at h 14 rfl)
  cell := celB_ok (ex_at h 15 rfl)
  sup := hs
  supI := He.eqO_ok (ex_at h 16 rfl)
  opq := He.eqO_ok (ex_at h 17 rfl)
  topS := ht
end
end Sv
/-! part H5 -/
set_option Elab.async false
set_option linter.all false
set_option maxRecDepth 100000
set_option maxHeartbeats 0
/-! the head: what is told behind the top -/
namespace Sv
open PySem PySem.Spec PyProof.Rows L2
abbrev R : PySem.W.OpenRow := PySem.W.OpenLaw.row PySem.Challenge.rw_saveclash_k80_whole_texts_and_what_is_no
def names0 : List PySem.Str := [("NoSession" : PySem.Str), ("NoStory" : PySem.Str), ("BadLine" : PySem.Str), ("LETTERS" : PySem.Str), ("LONGEST_plain" : PySem.Str), ("tupled" : PySem.Str), ("is_number" : PySem.Str), ("is_name" : PySem.Str), ("is_tuple" : PySem.Str), ("rises" : PySem.Str), ("TRIPLE" : PySem.Str), ("FOUR" : PySem.Str)]
def names1 : List PySem.Str := [("is_session" : PySem.Str), ("is_draft" : PySem.Str), ("FIVE" : PySem.Str), ("is_log_row" : PySem.Str), ("BLANK" : PySem.Str), ("COMMA" : PySem.Str), ("DASH" : PySem.Str), ("COLON" : PySem.Str), ("SLASH" : PySem.Str), ("FEED" : PySem.Str), ("ZERO" : PySem.Str), ("DIGITS" : PySem.Str)]
def names2 : List PySem.Str := [("LONGEST_texts" : PySem.Str), ("TWO" : PySem.Str), ("THREE" : PySem.Str), ("ANSWERS" : PySem.Str), ("WORDS" : PySem.Str), ("number_in" : PySem.Str), ("joined" : PySem.Str), ("session_text" : PySem.Str), ("row_text" : PySem.Str), ("sessions_text" : PySem.Str), ("log_text" : PySem.Str), ("authors_text" : PySem.Str)]
def names3 : List PySem.Str := [("beats_in" : PySem.Str), ("session_in" : PySem.Str), ("row_in" : PySem.Str), ("lines_in" : PySem.Str), ("rising" : PySem.Str), ("sessions_in" : PySem.Str), ("log_in" : PySem.Str), ("_law_box" : PySem.Str), ("_law_take" : PySem.Str), ("_law_cells" : PySem.Str), ("_law_of" : PySem.Str), ("_law_lists" : PySem.Str)]
def names4 : List PySem.Str := [("_law_same" : PySem.Str), ("_law_sessions" : PySem.Str), ("_law_is_amid" : PySem.Str), ("_law_meet" : PySem.Str), ("_law_let" : PySem.Str), ("_law_answer" : PySem.Str), ("_law_log" : PySem.Str), ("_law_rule" : PySem.Str), ("_law_are_names" : PySem.Str), ("_law_spoilt_by" : PySem.Str), ("_law_nr_in" : PySem.Str), ("_law_names_in" : PySem.Str)]
def names5 : List PySem.Str := [("_law_line_in" : PySem.Str), ("_law_sheet_in" : PySem.Str), ("_law_heard" : PySem.Str), ("_law_line" : PySem.Str), ("_law_by_hand_right" : PySem.Str), ("_law_right" : PySem.Str)]
def names : List PySem.Str := names0 ++ (names1 ++ (names2 ++ (names3 ++ (names4 ++ (names5)))))
def mkF (n : Str) (i : Nat) : He.DefD := { at_ := (n, none), name := n, qual := n, params := defArgs (top i), body := defBody (top i), scope := defScope (top i) }
def fn1 : List He.DefD := [mkF "tupled" 7, mkF "is_number" 8, mkF "is_name" 9, mkF "is_tuple" 10, mkF "rises" 11, mkF "is_session" 15, mkF "is_draft" 16, mkF "is_log_row" 19, mkF "number_in" 34, mkF "joined" 35, mkF "session_text" 36, mkF "row_text" 37, mkF "sessions_text" 38, mkF "log_text" 39, mkF "authors_text" 40, mkF "beats_in" 41, mkF "session_in" 42, mkF "row_in" 43, mkF "lines_in" 44, mkF "rising" 45, mkF "sessions_in" 46, mkF "log_in" 47, mkF "_law_box" 49, mkF "_law_take" 50, mkF "_law_cells" 51, mkF "_law_of" 52, mkF "_law_lists" 53, mkF "_law_same" 54, mkF "_law_sessions" 55, mkF "_law_is_amid" 56, mkF "_law_meet" 57, mkF "_law_let" 58, mkF "_law_answer" 59, mkF "_law_log" 60, mkF "_law_rule" 61, mkF "_law_are_names" 62, mkF "_law_spoilt_by" 63, mkF "_law_nr_in" 64, mkF "_law_names_in" 65, mkF "_law_line_in" 66, mkF "_law_sheet_in" 67, mkF "_law_heard" 68, mkF "_law_line" 69, mkF "_law_by_hand_right" 70, mkF "_law_right" 71, mkF "law" 72]
def glos : List Str := [("tupled" : Str), ("is_number" : Str), ("is_name" : Str), ("is_tuple" : Str), ("rises" : Str), ("is_session" : Str), ("is_draft" : Str), ("is_log_row" : Str), ("number_in" : Str), ("joined" : Str), ("session_text" : Str), ("row_text" : Str), ("sessions_text" : Str), ("log_text" : Str), ("authors_text" : Str), ("beats_in" : Str), ("session_in" : Str), ("row_in" : Str), ("lines_in" : Str), ("rising" : Str), ("sessions_in" : Str), ("log_in" : Str), ("_law_box" : Str), ("_law_take" : Str), ("_law_cells" : Str), ("_law_of" : Str), ("_law_lists" : Str), ("_law_same" : Str), ("_law_sessions" : Str), ("_law_is_amid" : Str), ("_law_meet" : Str), ("_law_let" : Str), ("_law_answer" : Str), ("_law_log" : Str), ("_law_rule" : Str), ("_law_are_names" : Str), ("_law_spoilt_by" : Str), ("_law_nr_in" : Str), ("_law_names_in" : Str), ("_law_line_in" : Str), ("_law_sheet_in" : Str), ("_law_heard" : Str), ("_law_line" : Str), ("_law_by_hand_right" : Str), ("_law_right" : Str), ("law" : Str), ("BadLine" : Str), ("NoSession" : Str), ("NoStory" : Str), ("WORDS" : Str), ("ANSWERS" : Str)]
def fa0 : List He.Fa := [.free "isinstance", .free "int", .free "bool", .free "str", .free "list", .free "tuple", .free "len", .free "all", .free "zip", .free "enumerate", .free "abs", .free "max", .free "min", .free "sorted", .free "set", .free "range", .free "dict", .free "ValueError", .free "super", .int "LONGEST_plain" 8, .int "TRIPLE" 3, .int "FOUR" 4, .int "FIVE" 5, .int "LONGEST_texts" 3, .int "TWO" 2, .int "THREE" 3, .str "LETTERS" "abcdefghijklmnopqrstuvwxyz", .str "BLANK" " ", .str "COMMA" ",", .str "DASH" "-", .str "COLON" ":", .str "SLASH" "/", .str "FEED" "\n", .str "ZERO" "0", .str "DIGITS" "0123456789"]
def fa1 : List He.Fa := fa0 ++ glos.map He.Fa.glo
def ts0 : List He.Tab := [(fun K => He.ga K "WORDS", ["yes", "no", "?"])]
/-- what is looked at -/
def fragS (g : Addr → Option Obj) : PySem.W.Frag := He.frG g (cStatics :: He.asD g 4)
abbrev AlS : Type := He.AlT × (Bool × InI)
def obsK (K : PySem.W.Frag) : AlS := (He.obsT fa1 fn1 ts0 K, (exB R.prog.main.file K, inObs K))
def wantK (w : World) : AlS := (He.valT fn1 ts0 w, (true, wantI))
structure SaysS (w : World) (K : PySem.W.Frag) : Prop where
  t : He.SaysT fa1 fn1 ts0 w K
  ex : exB R.prog.main.file K = true
  ini : inObs K = wantI
theorem saysS_of {w : World} {K : PySem.W.Frag} (e : obsK K = wantK w) : SaysS w K := ⟨congrArg (fun z : AlS => z.1) e, congrArg (fun z : AlS => z.2.1) e, congrArg (fun z : AlS => z.2.2) e⟩
def hookS : PySem.W.Hook where
  α := AlS
  obs := fun s => obsK (fragS s.heap.get?)
  val := wantK
  says := fun w h => ∃ K : PySem.W.Frag, K.In h ∧ SaysS w K
  of := fun _ _ e => ⟨_, He.frG_in, saysS_of e⟩
  keeps := fun _ _ _ ⟨K, hK, c⟩ k => ⟨K, PySem.W.Frag.In.keeps hK k, c⟩
def obS (s : PySem.W.SharedT) : hookS.α := obsK (fragS (HandSHeadRun.getT s))
theorem obS_eq (s : PySem.W.SharedT) : obS s = hookS.obs s.abs := by
  have e : HandSHeadRun.getT s = s.abs.heap.get? := funext fun a => HandSHeadRun.getT_eq s a
  unfold obS
  rw [e] <;> rfl
end Sv
/-! part A1 -/
set_option Elab.async false
set_option linter.all false
set_option maxRecDepth 100000
set_option maxHeartbeats 8000000
/-! every promise, from what the head tells -/
namespace Sv
open PySem PySem.Spec PyProof.Rows L2
theorem kw_of {K : PySem.W.Frag} {x qual p : Str} {params : Arguments} {body : List Stmt} {scope : Scope} {f : Addr} {fd : FuncData} (F : FunD K x qual params body scope [] [] f fd)
    (h : ∀ (kV doc pm : Value) (an : Option Addr) (cdv ct u : Value), bindArgs (PySem.W.fnOf x qual params body scope .none kV doc pm an cdv ct) ⟨[], [(p, u)]⟩ = pure [(p, u)]) (s : Shared) (u : Value) : BindsTo s fd ⟨[], [(p, u)]⟩ [(p, u)] := by
  obtain ⟨oc, od, dV, kV, doc, pm, an, cdv, ct, osl, rfl, lk, hcd, hD, hK⟩ := F.ex
  rcases hD with ⟨_, rfl⟩ | ⟨e, _⟩
  · exact .of_eq (h kV doc pm an cdv ct u)
  · exact absurd rfl e
/-- a def of the module: its name, its function, its binding -/
structure Df (K : PySem.W.Frag) (mg : Str → Option Value) (x : Str) (i : Nat) (ps : List Str) (fd : FuncData) : Prop where
  m : mg x = some (.ref (He.ga K x))
  F : FnP K x (top i) (He.ga K x) fd
  b : Binds K fd ps []
section
variable {P : Program} {w : World} {K : PySem.W.Frag} {mg : Str → Option Value} {base : Heap} {CX : CXT} {x p : Str} {i j k : Nat} {ps : List Str} {fd : FuncData} {sp : Sp}
theorem Df.has (D : Df K mg x i ps fd) (h : FnOk P w K mg base CX j (He.ga K x) fd ps sp) (l : Nat.ble j k = true := by rfl) : Has P w K mg base CX k x ps sp := Has.mono ⟨_, _, D.m, D.F.kp, D.b, h⟩ (Nat.le_of_ble_eq_true l)
theorem Df.kw (D : Df K mg x i [p] fd) (hk : ∀ (s : Shared) (u : Value), BindsTo s fd ⟨[], [(p, u)]⟩ [(p, u)]) (h : FnOk P w K mg base CX j (He.ga K x) fd [p] sp) (l : Nat.ble j k = true := by rfl) : HasKw P w K mg base CX k x p sp := HasKw.mono ⟨_, _, D.m, D.F.kp, D.b, h, hk⟩ (Nat.le_of_ble_eq_true l)
end
section
variable {w : World} {K : PySem.W.Frag} {h : Heap} {mg : Str → Option Value}
theorem df7 (X : K.In h) (G : h.Ns mainGlobals mg) (c : SaysS w K) : ∃ fd, Df K mg "tupled" 7 ["thing"] fd := by
  obtain ⟨fd, F⟩ := c.t.d.def_ 0 (d := mkF "tupled" 7) rfl
  have F : FnP K "tupled" (top 7) (He.ga K "tupled") fd := F
  exact ⟨fd, He.glo_ok X G (c.t.d.fact 35 (f := .glo "tupled") rfl), F, F.bindsN fun _ _ _ _ _ _ us hl => match us, hl with | [_], _ => rfl⟩
theorem df8 (X : K.In h) (G : h.Ns mainGlobals mg) (c : SaysS w K) : ∃ fd, Df K mg "is_number" 8 ["thing", "bottom"] fd := by
  obtain ⟨fd, F⟩ := c.t.d.def_ 1 (d := mkF "is_number" 8) rfl
  have F : FnP K "is_number" (top 8) (He.ga K "is_number") fd := F
  exact ⟨fd, He.glo_ok X G (c.t.d.fact 36 (f := .glo "is_number") rfl), F, F.bindsN fun _ _ _ _ _ _ us hl => match us, hl with | [_, _], _ => rfl⟩
theorem df9 (X : K.In h) (G : h.Ns mainGlobals mg) (c : SaysS w K) : ∃ fd, Df K mg "is_name" 9 ["thing"] fd := by
  obtain ⟨fd, F⟩ := c.t.d.def_ 2 (d := mkF "is_name" 9) rfl
  have F : FnP K "is_name" (top 9) (He.ga K "is_name") fd := F
  exact ⟨fd, He.glo_ok X G (c.t.d.fact 37 (f := .glo "is_name") rfl), F, F.bindsN fun _ _ _ _ _ _ us hl => match us, hl with | [_], _ => rfl⟩
theorem df10 (X : K.In h) (G : h.Ns mainGlobals mg) (c : SaysS w K) : ∃ fd, Df K mg "is_tuple" 10 ["thing", "many"] fd := by
  obtain ⟨fd, F⟩ := c.t.d.def_ 3 (d := mkF "is_tuple" 10) rfl
  have F : FnP K "is_tuple" (top 10) (He.ga K "is_tuple") fd := F
  exact ⟨fd, He.glo_ok X G (c.t.d.fact 38 (f := .glo "is_tuple") rfl), F, F.bindsN fun _ _ _ _ _ _ us hl => match us, hl with | [_, _], _ => rfl⟩
theorem df11 (X : K.In h) (G : h.Ns mainGlobals mg) (c : SaysS w K) : ∃ fd, Df K mg "rises" 11 ["row"] fd := by
  obtain ⟨fd, F⟩ := c.t.d.def_ 4 (d := mkF "rises" 11) rfl
  have F : FnP K "rises" (top 11) (He.ga K "rises") fd := F
  exact ⟨fd, He.glo_ok X G (c.t.d.fact 39 (f := .glo "rises") rfl), F, F.bindsN fun _ _ _ _ _ _ us hl => match us, hl with | [_], _ => rfl⟩
theorem df15 (X : K.In h) (G : h.Ns mainGlobals mg) (c : SaysS w K) : ∃ fd, Df K mg "is_session" 15 ["thing"] fd := by
  obtain ⟨fd, F⟩ := c.t.d.def_ 5 (d := mkF "is_session" 15) rfl
  have F : FnP K "is_session" (top 15) (He.ga K "is_session") fd := F
  exact ⟨fd, He.glo_ok X G (c.t.d.fact 40 (f := .glo "is_session") rfl), F, F.bindsN fun _ _ _ _ _ _ us hl => match us, hl with | [_], _ => rfl⟩
theorem df16 (X : K.In h) (G : h.Ns mainGlobals mg) (c : SaysS w K) : ∃ fd, Df K mg "is_draft" 16 ["thing"] fd := by
  obtain ⟨fd, F⟩ := c.t.d.def_ 6 (d := mkF "is_draft" 16) rfl
  have F : FnP K "is_draft" (top 16) (He.ga K "is_draft") fd := F
  exact ⟨fd, He.glo_ok X G (c.t.d.fact 41 (f := .glo "is_draft") rfl), F, F.bindsN fun _ _ _ _ _ _ us hl => match us, hl with | [_], _ => rfl⟩
theorem df19 (X : K.In h) (G : h.Ns mainGlobals mg) (c : SaysS w K) : ∃ fd, Df K mg "is_log_row" 19 ["thing"] fd := by
  obtain ⟨fd, F⟩ := c.t.d.def_ 7 (d := mkF "is_log_row" 19) rfl
  have F : FnP K "is_log_row" (top 19) (He.ga K "is_log_row") fd := F
  exact ⟨fd, He.glo_ok X G (c.t.d.fact 42 (f := .glo "is_log_row") rfl), F, F.bindsN fun _ _ _ _ _ _ us hl => match us, hl with | [_], _ => rfl⟩
theorem df34 (X : K.In h) (G : h.Ns mainGlobals mg) (c : SaysS w K) : ∃ fd, Df K mg "number_in" 34 ["word"] fd := by
  obtain ⟨fd, F⟩ := c.t.d.def_ 8 (d := mkF "number_in" 34) rfl
  have F : FnP K "number_in" (top 34) (He.ga K "number_in") fd := F
  exact ⟨fd, He.glo_ok X G (c.t.d.fact 43 (f := .glo "number_in") rfl), F, F.bindsN fun _ _ _ _ _ _ us hl => match us, hl with | [_], _ => rfl⟩
theorem df35 (X : K.In h) (G : h.Ns mainGlobals mg) (c : SaysS w K) : ∃ fd, Df K mg "joined" 35 ["words", "gap"] fd := by
  obtain ⟨fd, F⟩ := c.t.d.def_ 9 (d := mkF "joined" 35) rfl
  have F : FnP K "joined" (top 35) (He.ga K "joined") fd := F
  exact ⟨fd, He.glo_ok X G (c.t.d.fact 44 (f := .glo "joined") rfl), F, F.bindsN fun _ _ _ _ _ _ us hl => match us, hl with | [_, _], _ => rfl⟩
theorem df36 (X : K.In h) (G : h.Ns mainGlobals mg) (c : SaysS w K) : ∃ fd, Df K mg "session_text" 36 ["row"] fd := by
  obtain ⟨fd, F⟩ := c.t.d.def_ 10 (d := mkF "session_text" 36) rfl
  have F : FnP K "session_text" (top 36) (He.ga K "session_text") fd := F
  exact ⟨fd, He.glo_ok X G (c.t.d.fact 45 (f := .glo "session_text") rfl), F, F.bindsN fun _ _ _ _ _ _ us hl => match us, hl with | [_], _ => rfl⟩
theorem df37 (X : K.In h) (G : h.Ns mainGlobals mg) (c : SaysS w K) : ∃ fd, Df K mg "row_text" 37 ["row"] fd := by
  obtain ⟨fd, F⟩ := c.t.d.def_ 11 (d := mkF "row_text" 37) rfl
  have F : FnP K "row_text" (top 37) (He.ga K "row_text") fd := F
  exact ⟨fd, He.glo_ok X G (c.t.d.fact 46 (f := .glo "row_text") rfl), F, F.bindsN fun _ _ _ _ _ _ us hl => match us, hl with | [_], _ => rfl⟩
theorem df38 (X : K.In h) (G : h.Ns mainGlobals mg) (c : SaysS w K) : ∃ fd, Df K mg "sessions_text" 38 ["sessions"] fd := by
  obtain ⟨fd, F⟩ := c.t.d.def_ 12 (d := mkF "sessions_text" 38) rfl
  have F : FnP K "sessions_text" (top 38) (He.ga K "sessions_text") fd := F
  exact ⟨fd, He.glo_ok X G (c.t.d.fact 47 (f := .glo "sessions_text") rfl), F, F.bindsN fun _ _ _ _ _ _ us hl => match us, hl with | [_], _ => rfl⟩
theorem df39 (X : K.In h) (G : h.Ns mainGlobals mg) (c : SaysS w K) : ∃ fd, Df K mg "log_text" 39 ["log"] fd := by
  obtain ⟨fd, F⟩ := c.t.d.def_ 13 (d := mkF "log_text" 39) rfl
  have F : FnP K "log_text" (top 39) (He.ga K "log_text") fd := F
  exact ⟨fd, He.glo_ok X G (c.t.d.fact 48 (f := .glo "log_text") rfl), F, F.bindsN fun _ _ _ _ _ _ us hl => match us, hl with | [_], _ => rfl⟩
theorem df40 (X : K.In h) (G : h.Ns mainGlobals mg) (c : SaysS w K) : ∃ fd, Df K mg "authors_text" 40 ["authors"] fd := by
  obtain ⟨fd, F⟩ := c.t.d.def_ 14 (d := mkF "authors_text" 40) rfl
  have F : FnP K "authors_text" (top 40) (He.ga K "authors_text") fd := F
  exact ⟨fd, He.glo_ok X G (c.t.d.fact 49 (f := .glo "authors_text") rfl), F, F.bindsN fun _ _ _ _ _ _ us hl => match us, hl with | [_], _ => rfl⟩
theorem df41 (X : K.In h) (G : h.Ns mainGlobals mg) (c : SaysS w K) : ∃ fd, Df K mg "beats_in" 41 ["word", "many"] fd := by
  obtain ⟨fd, F⟩ := c.t.d.def_ 15 (d := mkF "beats_in" 41) rfl
  have F : FnP K "beats_in" (top 41) (He.ga K "beats_in") fd := F
  exact ⟨fd, He.glo_ok X G (c.t.d.fact 50 (f := .glo "beats_in") rfl), F, F.bindsN fun _ _ _ _ _ _ us hl => match us, hl with | [_, _], _ => rfl⟩
theorem df42 (X : K.In h) (G : h.Ns mainGlobals mg) (c : SaysS w K) : ∃ fd, Df K mg "session_in" 42 ["line"] fd := by
  obtain ⟨fd, F⟩ := c.t.d.def_ 16 (d := mkF "session_in" 42) rfl
  have F : FnP K "session_in" (top 42) (He.ga K "session_in") fd := F
  exact ⟨fd, He.glo_ok X G (c.t.d.fact 51 (f := .glo "session_in") rfl), F, F.bindsN fun _ _ _ _ _ _ us hl => match us, hl with | [_], _ => rfl⟩
theorem df43 (X : K.In h) (G : h.Ns mainGlobals mg) (c : SaysS w K) : ∃ fd, Df K mg "row_in" 43 ["line"] fd := by
  obtain ⟨fd, F⟩ := c.t.d.def_ 17 (d := mkF "row_in" 43) rfl
  have F : FnP K "row_in" (top 43) (He.ga K "row_in") fd := F
  exact ⟨fd, He.glo_ok X G (c.t.d.fact 52 (f := .glo "row_in") rfl), F, F.bindsN fun _ _ _ _ _ _ us hl => match us, hl with | [_], _ => rfl⟩
theorem df44 (X : K.In h) (G : h.Ns mainGlobals mg) (c : SaysS w K) : ∃ fd, Df K mg "lines_in" 44 ["text"] fd := by
  obtain ⟨fd, F⟩ := c.t.d.def_ 18 (d := mkF "lines_in" 44) rfl
  have F : FnP K "lines_in" (top 44) (He.ga K "lines_in") fd := F
  exact ⟨fd, He.glo_ok X G (c.t.d.fact 53 (f := .glo "lines_in") rfl), F, F.bindsN fun _ _ _ _ _ _ us hl => match us, hl with | [_], _ => rfl⟩
theorem df45 (X : K.In h) (G : h.Ns mainGlobals mg) (c : SaysS w K) : ∃ fd, Df K mg "rising" 45 ["rows", "place"] fd := by
  obtain ⟨fd, F⟩ := c.t.d.def_ 19 (d := mkF "rising" 45) rfl
  have F : FnP K "rising" (top 45) (He.ga K "rising") fd := F
  exact ⟨fd, He.glo_ok X G (c.t.d.fact 54 (f := .glo "rising") rfl), F, F.bindsN fun _ _ _ _ _ _ us hl => match us, hl with | [_, _], _ => rfl⟩
theorem df46 (X : K.In h) (G : h.Ns mainGlobals mg) (c : SaysS w K) : ∃ fd, Df K mg "sessions_in" 46 ["text"] fd := by
  obtain ⟨fd, F⟩ := c.t.d.def_ 20 (d := mkF "sessions_in" 46) rfl
  have F : FnP K "sessions_in" (top 46) (He.ga K "sessions_in") fd := F
  exact ⟨fd, He.glo_ok X G (c.t.d.fact 55 (f := .glo "sessions_in") rfl), F, F.bindsN fun _ _ _ _ _ _ us hl => match us, hl with | [_], _ => rfl⟩
theorem df47 (X : K.In h) (G : h.Ns mainGlobals mg) (c : SaysS w K) : ∃ fd, Df K mg "log_in" 47 ["text"] fd := by
  obtain ⟨fd, F⟩ := c.t.d.def_ 21 (d := mkF "log_in" 47) rfl
  have F : FnP K "log_in" (top 47) (He.ga K "log_in") fd := F
  exact ⟨fd, He.glo_ok X G (c.t.d.fact 56 (f := .glo "log_in") rfl), F, F.bindsN fun _ _ _ _ _ _ us hl => match us, hl with | [_], _ => rfl⟩
theorem df49 (X : K.In h) (G : h.Ns mainGlobals mg) (c : SaysS w K) : ∃ fd, Df K mg "_law_box" 49 ["_law_script", "_law_k"] fd := by
  obtain ⟨fd, F⟩ := c.t.d.def_ 22 (d := mkF "_law_box" 49) rfl
  have F : FnP K "_law_box" (top 49) (He.ga K "_law_box") fd := F
  exact ⟨fd, He.glo_ok X G (c.t.d.fact 57 (f := .glo "_law_box") rfl), F, F.bindsN fun _ _ _ _ _ _ us hl => match us, hl with | [_, _], _ => rfl⟩
theorem df50 (X : K.In h) (G : h.Ns mainGlobals mg) (c : SaysS w K) : ∃ fd, Df K mg "_law_take" 50 ["_law_box_here", "_law_below"] fd := by
  obtain ⟨fd, F⟩ := c.t.d.def_ 23 (d := mkF "_law_take" 50) rfl
  have F : FnP K "_law_take" (top 50) (He.ga K "_law_take") fd := F
  exact ⟨fd, He.glo_ok X G (c.t.d.fact 58 (f := .glo "_law_take") rfl), F, F.bindsN fun _ _ _ _ _ _ us hl => match us, hl with | [_, _], _ => rfl⟩
theorem df51 (X : K.In h) (G : h.Ns mainGlobals mg) (c : SaysS w K) : ∃ fd, Df K mg "_law_cells" 51 ["_law_script", "_law_most"] fd := by
  obtain ⟨fd, F⟩ := c.t.d.def_ 24 (d := mkF "_law_cells" 51) rfl
  have F : FnP K "_law_cells" (top 51) (He.ga K "_law_cells") fd := F
  exact ⟨fd, He.glo_ok X G (c.t.d.fact 59 (f := .glo "_law_cells") rfl), F, F.bindsN fun _ _ _ _ _ _ us hl => match us, hl with | [_, _], _ => rfl⟩
theorem df52 (X : K.In h) (G : h.Ns mainGlobals mg) (c : SaysS w K) : ∃ fd, Df K mg "_law_of" 52 ["_law_box_here", "_law_some"] fd := by
  obtain ⟨fd, F⟩ := c.t.d.def_ 25 (d := mkF "_law_of" 52) rfl
  have F : FnP K "_law_of" (top 52) (He.ga K "_law_of") fd := F
  exact ⟨fd, He.glo_ok X G (c.t.d.fact 60 (f := .glo "_law_of") rfl), F, F.bindsN fun _ _ _ _ _ _ us hl => match us, hl with | [_, _], _ => rfl⟩
theorem df53 (X : K.In h) (G : h.Ns mainGlobals mg) (c : SaysS w K) : ∃ fd, Df K mg "_law_lists" 53 ["_law_matter"] fd := by
  obtain ⟨fd, F⟩ := c.t.d.def_ 26 (d := mkF "_law_lists" 53) rfl
  have F : FnP K "_law_lists" (top 53) (He.ga K "_law_lists") fd := F
  exact ⟨fd, He.glo_ok X G (c.t.d.fact 61 (f := .glo "_law_lists") rfl), F, F.bindsN fun _ _ _ _ _ _ us hl => match us, hl with | [_], _ => rfl⟩
theorem df54 (X : K.In h) (G : h.Ns mainGlobals mg) (c : SaysS w K) : ∃ fd, Df K mg "_law_same" 54 ["_law_found", "_law_due"] fd := by
  obtain ⟨fd, F⟩ := c.t.d.def_ 27 (d := mkF "_law_same" 54) rfl
  have F : FnP K "_law_same" (top 54) (He.ga K "_law_same") fd := F
  exact ⟨fd, He.glo_ok X G (c.t.d.fact 62 (f := .glo "_law_same") rfl), F, F.bindsN fun _ _ _ _ _ _ us hl => match us, hl with | [_, _], _ => rfl⟩
theorem df55 (X : K.In h) (G : h.Ns mainGlobals mg) (c : SaysS w K) : ∃ fd, Df K mg "_law_sessions" 55 ["_law_box_here", "_law_size_all", "_law_pool_so"] fd := by
  obtain ⟨fd, F⟩ := c.t.d.def_ 28 (d := mkF "_law_sessions" 55) rfl
  have F : FnP K "_law_sessions" (top 55) (He.ga K "_law_sessions") fd := F
  exact ⟨fd, He.glo_ok X G (c.t.d.fact 63 (f := .glo "_law_sessions") rfl), F, F.bindsN fun _ _ _ _ _ _ us hl => match us, hl with | [_, _, _], _ => rfl⟩
theorem df56 (X : K.In h) (G : h.Ns mainGlobals mg) (c : SaysS w K) : ∃ fd, Df K mg "_law_is_amid" 56 ["_law_rows", "_law_k", "_law_j"] fd := by
  obtain ⟨fd, F⟩ := c.t.d.def_ 29 (d := mkF "_law_is_amid" 56) rfl
  have F : FnP K "_law_is_amid" (top 56) (He.ga K "_law_is_amid") fd := F
  exact ⟨fd, He.glo_ok X G (c.t.d.fact 64 (f := .glo "_law_is_amid") rfl), F, F.bindsN fun _ _ _ _ _ _ us hl => match us, hl with | [_, _, _], _ => rfl⟩
theorem df57 (X : K.In h) (G : h.Ns mainGlobals mg) (c : SaysS w K) : ∃ fd, Df K mg "_law_meet" 57 ["_law_rows", "_law_k", "_law_j"] fd := by
  obtain ⟨fd, F⟩ := c.t.d.def_ 30 (d := mkF "_law_meet" 57) rfl
  have F : FnP K "_law_meet" (top 57) (He.ga K "_law_meet") fd := F
  exact ⟨fd, He.glo_ok X G (c.t.d.fact 65 (f := .glo "_law_meet") rfl), F, F.bindsN fun _ _ _ _ _ _ us hl => match us, hl with | [_, _, _], _ => rfl⟩
theorem df58 (X : K.In h) (G : h.Ns mainGlobals mg) (c : SaysS w K) : ∃ fd, Df K mg "_law_let" 58 ["_law_rows", "_law_rule_so", "_law_there"] fd := by
  obtain ⟨fd, F⟩ := c.t.d.def_ 31 (d := mkF "_law_let" 58) rfl
  have F : FnP K "_law_let" (top 58) (He.ga K "_law_let") fd := F
  exact ⟨fd, He.glo_ok X G (c.t.d.fact 66 (f := .glo "_law_let") rfl), F, F.bindsN fun _ _ _ _ _ _ us hl => match us, hl with | [_, _, _], _ => rfl⟩
theorem df59 (X : K.In h) (G : h.Ns mainGlobals mg) (c : SaysS w K) : ∃ fd, Df K mg "_law_answer" 59 ["_law_box_here", "_law_is_let", "_law_odd"] fd := by
  obtain ⟨fd, F⟩ := c.t.d.def_ 32 (d := mkF "_law_answer" 59) rfl
  have F : FnP K "_law_answer" (top 59) (He.ga K "_law_answer") fd := F
  exact ⟨fd, He.glo_ok X G (c.t.d.fact 67 (f := .glo "_law_answer") rfl), F, F.bindsN fun _ _ _ _ _ _ us hl => match us, hl with | [_, _, _], _ => rfl⟩
theorem df60 (X : K.In h) (G : h.Ns mainGlobals mg) (c : SaysS w K) : ∃ fd, Df K mg "_law_log" 60 ["_law_box_here", "_law_size_all", "_law_rule_so", "_law_odd"] fd := by
  obtain ⟨fd, F⟩ := c.t.d.def_ 33 (d := mkF "_law_log" 60) rfl
  have F : FnP K "_law_log" (top 60) (He.ga K "_law_log") fd := F
  exact ⟨fd, He.glo_ok X G (c.t.d.fact 68 (f := .glo "_law_log") rfl), F, F.bindsN fun _ _ _ _ _ _ us hl => match us, hl with | [_, _, _, _], _ => rfl⟩
theorem df61 (X : K.In h) (G : h.Ns mainGlobals mg) (c : SaysS w K) : ∃ fd, Df K mg "_law_rule" 61 ["_law_box_here"] fd := by
  obtain ⟨fd, F⟩ := c.t.d.def_ 34 (d := mkF "_law_rule" 61) rfl
  have F : FnP K "_law_rule" (top 61) (He.ga K "_law_rule") fd := F
  exact ⟨fd, He.glo_ok X G (c.t.d.fact 69 (f := .glo "_law_rule") rfl), F, F.bindsN fun _ _ _ _ _ _ us hl => match us, hl with | [_], _ => rfl⟩
theorem df62 (X : K.In h) (G : h.Ns mainGlobals mg) (c : SaysS w K) : ∃ fd, Df K mg "_law_are_names" 62 ["_law_matter"] fd := by
  obtain ⟨fd, F⟩ := c.t.d.def_ 35 (d := mkF "_law_are_names" 62) rfl
  have F : FnP K "_law_are_names" (top 62) (He.ga K "_law_are_names") fd := F
  exact ⟨fd, He.glo_ok X G (c.t.d.fact 70 (f := .glo "_law_are_names") rfl), F, F.bindsN fun _ _ _ _ _ _ us hl => match us, hl with | [_], _ => rfl⟩
theorem df63 (X : K.In h) (G : h.Ns mainGlobals mg) (c : SaysS w K) : ∃ fd, Df K mg "_law_spoilt_by" 63 ["_law_box_here", "_law_sheet"] fd := by
  obtain ⟨fd, F⟩ := c.t.d.def_ 36 (d := mkF "_law_spoilt_by" 63) rfl
  have F : FnP K "_law_spoilt_by" (top 63) (He.ga K "_law_spoilt_by") fd := F
  exact ⟨fd, He.glo_ok X G (c.t.d.fact 71 (f := .glo "_law_spoilt_by") rfl), F, F.bindsN fun _ _ _ _ _ _ us hl => match us, hl with | [_, _], _ => rfl⟩
theorem df64 (X : K.In h) (G : h.Ns mainGlobals mg) (c : SaysS w K) : ∃ fd, Df K mg "_law_nr_in" 64 ["_law_word"] fd := by
  obtain ⟨fd, F⟩ := c.t.d.def_ 37 (d := mkF "_law_nr_in" 64) rfl
  have F : FnP K "_law_nr_in" (top 64) (He.ga K "_law_nr_in") fd := F
  exact ⟨fd, He.glo_ok X G (c.t.d.fact 72 (f := .glo "_law_nr_in") rfl), F, F.bindsN fun _ _ _ _ _ _ us hl => match us, hl with | [_], _ => rfl⟩
theorem df65 (X : K.In h) (G : h.Ns mainGlobals mg) (c : SaysS w K) : ∃ fd, Df K mg "_law_names_in" 65 ["_law_word"] fd := by
  obtain ⟨fd, F⟩ := c.t.d.def_ 38 (d := mkF "_law_names_in" 65) rfl
  have F : FnP K "_law_names_in" (top 65) (He.ga K "_law_names_in") fd := F
  exact ⟨fd, He.glo_ok X G (c.t.d.fact 73 (f := .glo "_law_names_in") rfl), F, F.bindsN fun _ _ _ _ _ _ us hl => match us, hl with | [_], _ => rfl⟩
theorem df66 (X : K.In h) (G : h.Ns mainGlobals mg) (c : SaysS w K) : ∃ fd, Df K mg "_law_line_in" 66 ["_law_line_here", "_law_is_row"] fd := by
  obtain ⟨fd, F⟩ := c.t.d.def_ 39 (d := mkF "_law_line_in" 66) rfl
  have F : FnP K "_law_line_in" (top 66) (He.ga K "_law_line_in") fd := F
  exact ⟨fd, He.glo_ok X G (c.t.d.fact 74 (f := .glo "_law_line_in") rfl), F, F.bindsN fun _ _ _ _ _ _ us hl => match us, hl with | [_, _], _ => rfl⟩
theorem df67 (X : K.In h) (G : h.Ns mainGlobals mg) (c : SaysS w K) : ∃ fd, Df K mg "_law_sheet_in" 67 ["_law_sheet", "_law_is_row"] fd := by
  obtain ⟨fd, F⟩ := c.t.d.def_ 40 (d := mkF "_law_sheet_in" 67) rfl
  have F : FnP K "_law_sheet_in" (top 67) (He.ga K "_law_sheet_in") fd := F
  exact ⟨fd, He.glo_ok X G (c.t.d.fact 75 (f := .glo "_law_sheet_in") rfl), F, F.bindsN fun _ _ _ _ _ _ us hl => match us, hl with | [_, _], _ => rfl⟩
theorem df68 (X : K.In h) (G : h.Ns mainGlobals mg) (c : SaysS w K) : ∃ fd, Df K mg "_law_heard" 68 ["_law_sheet", "_law_is_row"] fd := by
  obtain ⟨fd, F⟩ := c.t.d.def_ 41 (d := mkF "_law_heard" 68) rfl
  have F : FnP K "_law_heard" (top 68) (He.ga K "_law_heard") fd := F
  exact ⟨fd, He.glo_ok X G (c.t.d.fact 76 (f := .glo "_law_heard") rfl), F, F.bindsN fun _ _ _ _ _ _ us hl => match us, hl with | [_, _], _ => rfl⟩
theorem df69 (X : K.In h) (G : h.Ns mainGlobals mg) (c : SaysS w K) : ∃ fd, Df K mg "_law_line" 69 ["_law_row"] fd := by
  obtain ⟨fd, F⟩ := c.t.d.def_ 42 (d := mkF "_law_line" 69) rfl
  have F : FnP K "_law_line" (top 69) (He.ga K "_law_line") fd := F
  exact ⟨fd, He.glo_ok X G (c.t.d.fact 77 (f := .glo "_law_line") rfl), F, F.bindsN fun _ _ _ _ _ _ us hl => match us, hl with | [_], _ => rfl⟩
theorem df70 (X : K.In h) (G : h.Ns mainGlobals mg) (c : SaysS w K) : ∃ fd, Df K mg "_law_by_hand_right" 70 [] fd := by
  obtain ⟨fd, F⟩ := c.t.d.def_ 43 (d := mkF "_law_by_hand_right" 70) rfl
  have F : FnP K "_law_by_hand_right" (top 70) (He.ga K "_law_by_hand_right") fd := F
  exact ⟨fd, He.glo_ok X G (c.t.d.fact 78 (f := .glo "_law_by_hand_right") rfl), F, F.bindsN fun _ _ _ _ _ _ us hl => match us, hl with | [], _ => rfl⟩
theorem df71 (X : K.In h) (G : h.Ns mainGlobals mg) (c : SaysS w K) : ∃ fd, Df K mg "_law_right" 71 ["_law_box_here"] fd := by
  obtain ⟨fd, F⟩ := c.t.d.def_ 44 (d := mkF "_law_right" 71) rfl
  have F : FnP K "_law_right" (top 71) (He.ga K "_law_right") fd := F
  exact ⟨fd, He.glo_ok X G (c.t.d.fact 79 (f := .glo "_law_right") rfl), F, F.bindsN fun _ _ _ _ _ _ us hl => match us, hl with | [_], _ => rfl⟩
theorem df72 (X : K.In h) (G : h.Ns mainGlobals mg) (c : SaysS w K) : ∃ fd, Df K mg "law" 72 ["_law_script"] fd := by
  obtain ⟨fd, F⟩ := c.t.d.def_ 45 (d := mkF "law" 72) rfl
  have F : FnP K "law" (top 72) (He.ga K "law") fd := F
  exact ⟨fd, He.glo_ok X G (c.t.d.fact 80 (f := .glo "law") rfl), F, F.bindsN fun _ _ _ _ _ _ us hl => match us, hl with | [_], _ => rfl⟩
theorem gl_BadLine (X : K.In h) (G : h.Ns mainGlobals mg) (c : SaysS w K) : mg "BadLine" = some (.ref (He.ga K "BadLine")) := He.glo_ok X G (c.t.d.fact 81 (f := .glo "BadLine") rfl)
theorem gl_NoSession (X : K.In h) (G : h.Ns mainGlobals mg) (c : SaysS w K) : mg "NoSession" = some (.ref (He.ga K "NoSession")) := He.glo_ok X G (c.t.d.fact 82 (f := .glo "NoSession") rfl)
theorem gl_NoStory (X : K.In h) (G : h.Ns mainGlobals mg) (c : SaysS w K) : mg "NoStory" = some (.ref (He.ga K "NoStory")) := He.glo_ok X G (c.t.d.fact 83 (f := .glo "NoStory") rfl)
theorem gl_WORDS (X : K.In h) (G : h.Ns mainGlobals mg) (c : SaysS w K) : mg "WORDS" = some (.ref (He.ga K "WORDS")) := He.glo_ok X G (c.t.d.fact 84 (f := .glo "WORDS") rfl)
theorem gl_ANSWERS (X : K.In h) (G : h.Ns mainGlobals mg) (c : SaysS w K) : mg "ANSWERS" = some (.ref (He.ga K "ANSWERS")) := He.glo_ok X G (c.t.d.fact 85 (f := .glo "ANSWERS") rfl)
theorem tx_of (X : K.In h) (G : h.Ns mainGlobals mg) (c : SaysS w K) : Tx mg where
  isinstance := He.free_ok X G (c.t.d.fact 0 (f := .free "isinstance") rfl)
  int := He.free_ok X G (c.t.d.fact 1 (f := .free "int") rfl)
  bool := He.free_ok X G (c.t.d.fact 2 (f := .free "bool") rfl)
  str := He.free_ok X G (c.t.d.fact 3 (f := .free "str") rfl)
  list := He.free_ok X G (c.t.d.fact 4 (f := .free "list") rfl)
  tuple := He.free_ok X G (c.t.d.fact 5 (f := .free "tuple") rfl)
  len := He.free_ok X G (c.t.d.fact 6 (f := .free "len") rfl)
  all := He.free_ok X G (c.t.d.fact 7 (f := .free "all") rfl)
  zip := He.free_ok X G (c.t.d.fact 8 (f := .free "zip") rfl)
  enumerate := He.free_ok X G (c.t.d.fact 9 (f := .free "enumerate") rfl)
  abs := He.free_ok X G (c.t.d.fact 10 (f := .free "abs") rfl)
  max := He.free_ok X G (c.t.d.fact 11 (f := .free "max") rfl)
  min := He.free_ok X G (c.t.d.fact 12 (f := .free "min") rfl)
  sorted := He.free_ok X G (c.t.d.fact 13 (f := .free "sorted") rfl)
  set := He.free_ok X G (c.t.d.fact 14 (f := .free "set") rfl)
  range := He.free_ok X G (c.t.d.fact 15 (f := .free "range") rfl)
  dict := He.free_ok X G (c.t.d.fact 16 (f := .free "dict") rfl)
  valueError := He.free_ok X G (c.t.d.fact 17 (f := .free "ValueError") rfl)
  longestP := He.int_ok X G (c.t.d.fact 19 (f := .int "LONGEST_plain" 8) rfl)
  triple := He.int_ok X G (c.t.d.fact 20 (f := .int "TRIPLE" 3) rfl)
  four := He.int_ok X G (c.t.d.fact 21 (f := .int "FOUR" 4) rfl)
  five := He.int_ok X G (c.t.d.fact 22 (f := .int "FIVE" 5) rfl)
  longestT := He.int_ok X G (c.t.d.fact 23 (f := .int "LONGEST_texts" 3) rfl)
  two := He.int_ok X G (c.t.d.fact 24 (f := .int "TWO" 2) rfl)
  three := He.int_ok X G (c.t.d.fact 25 (f := .int "THREE" 3) rfl)
  letters := He.str_ok X G (c.t.d.fact 26 (f := .str "LETTERS" "abcdefghijklmnopqrstuvwxyz") rfl)
  blank := He.str_ok X G (c.t.d.fact 27 (f := .str "BLANK" " ") rfl)
  comma := He.str_ok X G (c.t.d.fact 28 (f := .str "COMMA" ",") rfl)
  dash := He.str_ok X G (c.t.d.fact 29 (f := .str "DASH" "-") rfl)
  colon := He.str_ok X G (c.t.d.fact 30 (f := .str "COLON" ":") rfl)
  slash := He.str_ok X G (c.t.d.fact 31 (f := .str "SLASH" "/") rfl)
  feed := He.str_ok X G (c.t.d.fact 32 (f := .str "FEED" "\n") rfl)
  zero := He.str_ok X G (c.t.d.fact 33 (f := .str "ZERO" "0") rfl)
  digits := He.str_ok X G (c.t.d.fact 34 (f := .str "DIGITS" "0123456789") rfl)
theorem bl_of (X : K.In h) (G : h.Ns mainGlobals mg) (c : SaysS w K) : BlTxt R.prog K mg (blA K) (blI K) (blC K) (blO K) :=
  blTxt_of c.ex c.ini (gl_BadLine X G c) (He.eqO_ok (show He.eqO (PySem.W.nsIn K mainGlobals "super") (some none) = true from c.t.d.fact 18 (f := .free "super") rfl)) (by kernel_rfl)
theorem ex_of (X : K.In h) (G : h.Ns mainGlobals mg) (c : SaysS w K) : ExTxt K mg (blA K) := exTxt_of (prog := R.prog) c.ex (gl_NoSession X G c) (gl_NoStory X G c)
theorem wd_of (X : K.In h) (G : h.Ns mainGlobals mg) (c : SaysS w K) : Wd K w mg := wdB_ok (ex_at c.ex 28 rfl) (gl_WORDS X G c) (c.t.tab 0 (t := (fun K => He.ga K "WORDS", ["yes", "no", "?"])) rfl)
theorem ad_of (X : K.In h) (G : h.Ns mainGlobals mg) (c : SaysS w K) : Ad R.prog w K mg := adB_ok (ex_at c.ex 27 rfl) (gl_ANSWERS X G c)
/-- all promises, up to the law's -/
theorem all_mk (X : K.In h) (G : h.Ns mainGlobals mg) (c : SaysS w K) : ∃ fd, Df K mg "law" 72 ["_law_script"] fd ∧ ∀ base : Heap, FnOk R.prog w K mg base CX0 10 (He.ga K "law") fd ["_law_script"] spLawF := by
  have T := tx_of X G c
  have W := wd_of X G c
  have Q := ad_of X G c
  have TB := bl_of X G c
  have TE := ex_of X G c
  obtain ⟨f7, D7⟩ := df7 X G c
  obtain ⟨f8, D8⟩ := df8 X G c
  obtain ⟨f9, D9⟩ := df9 X G c
  obtain ⟨f10, D10⟩ := df10 X G c
  obtain ⟨f11, D11⟩ := df11 X G c
  obtain ⟨f15, D15⟩ := df15 X G c
  obtain ⟨f16, D16⟩ := df16 X G c
  obtain ⟨f19, D19⟩ := df19 X G c
  obtain ⟨f34, D34⟩ := df34 X G c
  obtain ⟨f35, D35⟩ := df35 X G c
  obtain ⟨f36, D36⟩ := df36 X G c
  obtain ⟨f37, D37⟩ := df37 X G c
  obtain ⟨f38, D38⟩ := df38 X G c
  obtain ⟨f39, D39⟩ := df39 X G c
  obtain ⟨f40, D40⟩ := df40 X G c
  obtain ⟨f41, D41⟩ := df41 X G c
  obtain ⟨f42, D42⟩ := df42 X G c
  obtain ⟨f43, D43⟩ := df43 X G c
  obtain ⟨f44, D44⟩ := df44 X G c
  obtain ⟨f45, D45⟩ := df45 X G c
  obtain ⟨f46, D46⟩ := df46 X G c
  obtain ⟨f47, D47⟩ := df47 X G c
  obtain ⟨f49, D49⟩ := df49 X G c
  obtain ⟨f50, D50⟩ := df50 X G c
  obtain ⟨f51, D51⟩ := df51 X G c
  obtain ⟨f52, D52⟩ := df52 X G c
  obtain ⟨f53, D53⟩ := df53 X G c
  obtain ⟨f54, D54⟩ := df54 X G c
  obtain ⟨f55, D55⟩ := df55 X G c
  obtain ⟨f56, D56⟩ := df56 X G c
  obtain ⟨f57, D57⟩ := df57 X G c
  obtain ⟨f58, D58⟩ := df58 X G c
  obtain ⟨f59, D59⟩ := df59 X G c
  obtain ⟨f60, D60⟩ := df60 X G c
  obtain ⟨f61, D61⟩ := df61 X G c
  obtain ⟨f62, D62⟩ := df62 X G c
  obtain ⟨f63, D63⟩ := df63 X G c
  obtain ⟨f64, D64⟩ := df64 X G c
  obtain ⟨f65, D65⟩ := df65 X G c
  obtain ⟨f66, D66⟩ := df66 X G c
  obtain ⟨f67, D67⟩ := df67 X G c
  obtain ⟨f68, D68⟩ := df68 X G c
  obtain ⟨f69, D69⟩ := df69 X G c
  obtain ⟨f70, D70⟩ := df70 X G c
  obtain ⟨f71, D71⟩ := df71 X G c
  obtain ⟨f72, D72⟩ := df72 X G c
  have k38 := kw_of (p := "sessions") D38.F fun _ _ _ _ _ _ _ => rfl
  have k39 := kw_of (p := "log") D39.F fun _ _ _ _ _ _ _ => rfl
  have k40 := kw_of (p := "authors") D40.F fun _ _ _ _ _ _ _ => rfl
  have k46 := kw_of (p := "text") D46.F fun _ _ _ _ _ _ _ => rfl
  have k47 := kw_of (p := "text") D47.F fun _ _ _ _ _ _ _ => rfl
  refine ⟨f72, D72, fun base => ?_⟩
  have h34 := ok_number_in (P := R.prog) (w := w) (base := base) D34.F T
  have h8 := ok_is_number (P := R.prog) (w := w) (base := base) D8.F T
  have h9 := ok_is_name (P := R.prog) (w := w) (base := base) D9.F T
  have h10 := ok_is_tuple (P := R.prog) (w := w) (base := base) D10.F T
  have h11 := ok_rises (P := R.prog) (w := w) (base := base) D11.F T
  have h15 := ok_is_session (P := R.prog) (w := w) (base := base) D15.F T (D8.has h8) (D9.has h9) (D10.has h10) (D11.has h11)
  have h16 := ok_is_draft (P := R.prog) (w := w) (base := base) D16.F T (D8.has h8) (D10.has h10) (D15.has h15)
  have h19 := ok_is_log_row (P := R.prog) (w := w) (base := base) D19.F T (D10.has h10) (D16.has h16)
  have h41 := ok_beats_in (P := R.prog) (w := w) (base := base) D41.F T (D34.has h34)
  have h42 := ok_session_in (P := R.prog) (w := w) (base := base) D42.F T (D41.has h41) (D15.has h15)
  have h43 := ok_row_in (P := R.prog) (w := w) (base := base) D43.F T W (D41.has h41) (D19.has h19)
  have h44 := ok_lines_in (P := R.prog) (w := w) (base := base) D44.F T
  have h45 := ok_rising (P := R.prog) (w := w) (base := base) D45.F T TB
  have h46 := ok_sessions_in (P := R.prog) (w := w) (base := base) D46.F T (D44.has h44) (D42.has h42) (D45.has h45)
  have h47 := ok_log_in (P := R.prog) (w := w) (base := base) D47.F T (D44.has h44) (D43.has h43) (D45.has h45)
  have h68 := ok_heard (P := R.prog) (w := w) (base := base) D68.F T TB TE (D46.kw k46 h46) (D47.kw k47 h47)
  have h7 := ok_tupled (P := R.prog) (w := w) (base := base) D7.F T D7.m D7.b 5
  have h53 := ok_lists (P := R.prog) (w := w) (base := base) D53.F T D53.m D53.b 5
  have h54 := ok_same (P := R.prog) (w := w) (base := base) D54.F T D54.m D54.b 7
  have h35 := ok_joined (P := R.prog) (w := w) (base := base) D35.F T
  have h36 := ok_session_text (P := R.prog) (w := w) (base := base) D36.F T
  have h37 := ok_row_text (P := R.prog) (w := w) (base := base) D37.F T Q
  have h38 := ok_sessions_text (P := R.prog) (w := w) (base := base) D38.F T (D7.has h7) (D36.has h36)
  have h39 := ok_log_text (P := R.prog) (w := w) (base := base) D39.F T (D7.has h7) (D37.has h37)
  have h40 := ok_authors_text (P := R.prog) (w := w) (base := base) D40.F T (D7.has h7) (D35.has h35)
  have h64 := ok_nr_in (P := R.prog) (w := w) (base := base) D64.F T
  have h62 := ok_are_names (P := R.prog) (w := w) (base := base) D62.F T
  have h65 := ok_names_in (P := R.prog) (w := w) (base := base) D65.F T (D62.has h62)
  have h66 := ok_line_in (P := R.prog) (w := w) (base := base) D66.F T (D64.has h64) (D65.has h65)
  have h67 := ok_sheet_in (P := R.prog) (w := w) (base := base) D67.F T (D66.has h66)
  have h69 := ok_line (P := R.prog) (w := w) (base := base) D69.F T
  have g54 := ok_same (P := R.prog) (w := w) (base := base) D54.F T D54.m D54.b 5
  have h70 := ok_by_hand (P := R.prog) (w := w) (base := base) D70.F T (D38.has h38) (D39.has h39) (D40.has h40) (D46.has h46) (D47.has h47) (D68.has h68) (D67.has h67) (D54.has g54)
  have h50 := ok_take (P := R.prog) (w := w) (base := base) D50.F T
  have h52 := ok_of (P := R.prog) (w := w) (base := base) D52.F T (D50.has h50)
  have h61 := ok_rule (P := R.prog) (w := w) (base := base) D61.F T (D52.has h52)
  have h59 := ok_answer (P := R.prog) (w := w) (base := base) D59.F T (D50.has h50) (D52.has h52)
  have h55 := ok_sessions (P := R.prog) (w := w) (base := base) D55.F T (D50.has h50) (D52.has h52)
  have h56 := ok_amid (P := R.prog) (w := w) (base := base) D56.F T
  have h57 := ok_meet (P := R.prog) (w := w) (base := base) D57.F T
  have h58 := ok_let (P := R.prog) (w := w) (base := base) D58.F T (D56.has h56) (D57.has h57)
  have h60 := ok_log (P := R.prog) (w := w) (base := base) D60.F T (D50.has h50) (D52.has h52) (D55.has h55) (D58.has h58) (D59.has h59)
  have h63 := ok_spoilt (P := R.prog) (w := w) (base := base) D63.F T (D50.has h50) (D52.has h52)
  have h71 := ok_right (P := R.prog) (w := w) (base := base) D71.F T (D70.has h70) (D50.has h50) (D52.has h52) (D55.has h55) (D60.has h60) (D61.has h61) (D63.has h63) (D69.has h69) (D53.has h53) (D54.has h54) (D68.has h68) (D67.has h67) (D38.kw k38 h38) (D39.kw k39 h39) (D40.kw k40 h40)
  have h49 := ok_boxL (P := R.prog) (w := w) (base := base) D49.F T
  have h51 := ok_cellsF (P := R.prog) (w := w) (base := base) D51.F T
  exact ok_lawF D72.F T (D51.has h51) (D49.has h49) (D71.has h71)
end
end Sv
/-! part H6F -/
set_option Elab.async false
set_option linter.all false
set_option maxRecDepth 100000
set_option maxHeartbeats 0
namespace Sv
open PySem PySem.Spec PyProof.Rows L2
theorem runF (w : World) : HandSHeadRun.RunEq R (PySem.W.view R.prog [72]) hookS obS 3000 names (w.withFollow "special-get-raises" false) := by
  intro os
  kernel_rfl
end Sv
/-! part H6T -/
set_option Elab.async false
set_option linter.all false
set_option maxRecDepth 100000
set_option maxHeartbeats 0
namespace Sv
open PySem PySem.Spec PyProof.Rows L2
theorem runT (w : World) : HandSHeadRun.RunEq R (PySem.W.view R.prog [72]) hookS obS 3000 names (w.withFollow "special-get-raises" true) := by
  intro os
  kernel_rfl
end Sv
/-! part E1 -/
set_option Elab.async false
set_option linter.all false
set_option maxRecDepth 100000
set_option maxHeartbeats 0
namespace Sv
open PySem PySem.Spec PyProof.Rows L2
theorem runW (w : World) : HandSHeadRun.RunEq R (PySem.W.view R.prog [72]) hookS obS 3000 names w := PySem.W.byRow2 "special-get-raises" (P := fun w => HandSHeadRun.RunEq R (PySem.W.view R.prog [72]) hookS obS 3000 names w) runF runT w
end Sv
open PySem PySem.W PySem.Calls PyProof.Rows
theorem PySem.Challenge.cw_saveclash_k80_whole_texts_and_what_is_no_holds : PySem.Challenge.rw_saveclash_k80_whole_texts_and_what_is_no.Holds := by
  w_on; o_law
  refine HandSHeadRun.head_any (r := Sv.R) (q := view Sv.R.prog [72]) (H := Sv.hookS) (ob := Sv.obS) (M := 3000) (loose := Sv.names) (d := HandSHeadRun.topDef Sv.R.prog 72) (kwd := []) Sv.obS_eq (by kernel_rfl) (fun s => by kernel_rfl) Sv.runW (by kernel_rfl) (by kernel_rfl) (by kernel_rfl) (by rfl) (by first | assumption | decide +kernel) (by decide +kernel) ⟨rfl, rfl, rfl, rfl, rfl, by decide +kernel⟩ ?hw ?hc
  case hw => w_witness2
  case hc =>
    refine L2.walk_ofE (l := PySem.Challenge.rw_saveclash_k80_whole_texts_and_what_is_no) (n := 63) (k := 10) (x := "_law_script") (CX := L2.CX0) rfl (by decide) (by kernel_rfl) ⟨rfl, by decide, by decide⟩ ?F (fun _ _ _ _ z => z)
    intro w mg fa h Y G m0
    obtain ⟨K, KX, c⟩ := Y
    have m1 : mg ("law" : PySem.Str) = some (.ref fa) := by
      have ed : (HandSHeadRun.topDef Sv.R.prog 72).name = ("law" : PySem.Str) := by kernel_rfl
      rw [← ed]
      exact m0
    obtain ⟨fd, D, hF⟩ := Sv.all_mk KX G c
    have e := m1.symm.trans D.m
    cases e
    have b := L2.FunD.bindsA (ps := ["_law_script"]) D.F fun _ _ _ _ _ _ us hl => match us, hl with | [_], _ => rfl
    refine ⟨K, fd, Sv.spLawF, KX, fun s v => b s [v] rfl, fun H a ns hl _ hS => ?_, fun base _ _ => hF base⟩
    rcases hS with q | ⟨o, its, n, e1, e2, e3, e4, _⟩
    · exact ⟨a, ns, rfl, q, Nat.le_trans hl (by decide), fun _ => rfl⟩
    · exact (Sv.noLst_ok (Sv.ex_at c.ex 26 rfl) e1 e2 e4).elim
