import PyProof.Rows.All
import Wide.All
import OpenK.AllK
import Wide.FinOn
import Lean
import PySem.Challenge.RW_ok0139_01
open PySem PySem.W PyProof.Rows PySem.Calls
set_option Elab.async false
set_option maxRecDepth 100000
set_option maxHeartbeats 8000000
set_option linter.all false
namespace Mine
theorem lay_0 : True := by
  k_with "zA" => ((case hf₉ => exact rfl); (case hke₉ => exact rfl); (case B₉ => k_asm); (case F₉ => k_asm); (case N₉ => k_asm); (case X₉ => k_asm); (case T₉ => k_asm))
  k_with "zD" => ((case hd₉ => first | walk_at "zR" | omega | k_room); (case hu₉ => first | walk_at "zR" | omega | k_units); k_whole)
  k_with "zM" => ((case mx₉ => k_mem); (case md₉ => k_mem); (case kk₉ => assumption); (case xd₉ => omega); (case hP₉ => first | assumption | omega | decide); (case hO₉ => first | assumption | omega | decide))
  trivial
local macro_rules | `(tactic| walk_at $s:str) => `(tactic| k_extra $s)
section
local macro_rules | `(tactic| o_head (kmHook $_ $_ $_ $_)) => `(tactic| assumption)
/-- lays the written part of the top's heap as Mine.pre.heap_1 -/
theorem pre (h : PySem.Challenge.rw_ok0139_01.row.Holds) : PySem.Challenge.rw_ok0139_01.row.Holds := by k_head
end
/-- an Around of a def's frame -/
abbrev Ar (dp un : Nat) (gd : Option (List Code)) (l : List Env) : Around := { handled := none, depth := dp, frames := some l, guards := gd, units := un }
/-- all but own stands as it stood -/
def Kp (own : List Addr) (h h' : Heap) : Prop := ∀ b o, h.get? b = some o → b ∉ own → h'.get? b = some o

def LeaveO (R : Result → Shared → Prop) (v : Value) (s' : Shared) : Prop := R (.ok (.ret v)) s'

theorem enter_raw {w : World} {dp un : Nat} {gd : Option (List Code)} {l : List Env} {s : Shared} {base : Heap} {K : Frag} {p : Program} {loose : List Str} {mean : ExcName → Option Value} {mg mb : Str → Option Value} {own : List (Addr × Obj)}
    {prog : Program} {R : Result → Shared → Prop} {name qual : Str} {params : Arguments} {body : List Stmt} {scope : Scope} {dV kV doc pm cdv ct oc : Value} {an od : Option Addr} {osl : Array (Option Value)} {f : Addr} {args : Args} {binds : List (Str × Value)}
    (B : Below (Ar dp un gd l) base l s.heap) (X₀ : K.In base) (T : Top p loose mean mg mb base)
    (hown : ∀ q ∈ own, s.heap.get? q.1 = some q.2 ∧ base.get? q.1 = none ∧ q.1 ∉ l.filterMap (·.frame))
    (ho : K.lookup f = some ⟨oc, od, .func (fnOf name qual params body scope dV kV doc pm an cdv ct), osl⟩) (hcd : codeIn K cdv qual = true) (hroom : dp < recursionLimit)
    (hbind : BindsTo s (fnOf name qual params body scope dV kV doc pm an cdv ct) args binds) (hloc : ∀ y ∈ binds, scope.names.lookup y.1 = some .local)
    (h : ∀ g L' h₁, (∀ b o, s.heap.get? b = some o → b ∉ own.map (·.1) → g.get? b = some o) → Fr g L' h₁ (fun y => binds.reverse.lookup y) → News g L' h₁ own → Below (Ar dp un gd l) base l g → K.In g → Top p loose mean mg mb g → (∀ q ∈ own, q.1 < L') →
      wpAny (model prog w) ((Ar dp un gd l).deeper (envOf qual scope L' f cdv)) (execs body (envOf qual scope L' f cdv))
        (fun fl s' => LeaveO R (match fl with | .ret v => v | _ => .none) s')
        (fun e s' => wpAny (model prog w) ((Ar dp un gd l).deeper (envOf qual scope L' f cdv)) (leaving (envOf qual scope L' f cdv) e) (fun _ s'' => R (.error e) s'') (fun e' s'' => R (.error e') s'') s')
        { s with heap := h₁, toks := s.toks + binds.length })
    (hco : scope.isCoroutine = false) (hgen : scope.isGenerator = false) (hk : scope.kind = .function)
    (hcell : ∀ x ∈ scope.names, x.2 ≠ .cell) : codeAny (model prog w) (Ar dp un gd l) (.call (.ref f) args) R s := by
  have X := X₀.keeps B.stays
  refine codeAny_call_def (fd := fnOf name qual params body scope dV kV doc pm an cdv ct) (body := body) (binds := binds) hroom (X _ _ ho) rfl (T.nolimit.keeps B.stays) (codeRec_of X hcd) rfl hbind hcell hloc (fun h₁ hns hk₁ => ?_) hco hgen hk
  have keep : ∀ b o, s.heap.get? b = some o → b ∉ own.map (·.1) → (hideAll s.heap (own.map (·.1))).get? b = some o := fun b o e nb => hideAll_get _ e nb
  have st : base.StaysIn (hideAll s.heap (own.map (·.1))) := fun b o e => keep b o (B.stays b o e) fun q => by
    obtain ⟨x, hx, rfl⟩ := List.mem_map.mp q
    rw [(hown x hx).2.1] at e; cases e
  have B' : Below (Ar dp un gd l) base l (hideAll s.heap (own.map (·.1))) := ⟨B.stack, st, funFrames_hideAll B.frames fun env he b hb hf => by
    obtain ⟨x, hx, rfl⟩ := List.mem_map.mp hb
    exact (hown x hx).2.2 (List.mem_filterMap.mpr ⟨env, he, hf⟩)⟩
  exact h _ s.heap.objs.size h₁ keep ⟨hns, fun b o e => hk₁ b o (of_hideAll _ e), Nat.le_of_eq (hideAll_size _ _)⟩
    (fun q hq => ⟨hk₁ _ _ (hown q hq).1, Nat.ne_of_lt (Heap.lt_size (hown q hq).1), hideAll_none _ (List.mem_map_of_mem hq)⟩) B' (X₀.keeps st) (T.keeps st) (fun q hq => Heap.lt_size (hown q hq).1)
theorem depth_Ar (dp un : Nat) (gd : Option (List Code)) (l : List Env) : (Ar dp un gd l).depth = dp := rfl
theorem units_Ar (dp un : Nat) (gd : Option (List Code)) (l : List Env) : (Ar dp un gd l).units = un := rfl
theorem cline_le : 1000 ≤ cLine := by unfold cLine; decide
theorem getD2_0 (x y d : Int) : [x, y].getD (Int.toNat 0) d = x := rfl
theorem getD2_1 (x y d : Int) : [x, y].getD (Int.toNat 1) d = y := rfl
theorem mulOk64 {a b : Int} (ha : -(2 ^ 64) < a) (ha2 : a < 2 ^ 64) (hb : -(2 ^ 64) < b) (hb2 : b < 2 ^ 64) : IntMulOk a b :=
  IntMulOk.of_le (m := 64) (n := 64) (intBits_le_iff.mpr (by omega)) (intBits_le_iff.mpr (by omega)) (by decide)
theorem gen_toks {α : Type} {M : Model} {A : Around} {m : Sem α} {Q : α → Shared → Prop} {E : Value → Shared → Prop} {h : Heap} {g : Array GenState} {d : Drawn} {t : Nat} {os : OsState} (H : ∀ tk, wpAny M A m Q E ⟨h, g, d, tk, os⟩) : wpAny M A m Q E ⟨h, g, d, t, os⟩ := H t
/-- the caller's ledger behind a call that turns one object -/
theorem use_kp1 {h₀ h h' : Heap} {L src : Addr} {m : Str → Option Value} {news news' : List (Addr × Obj)} {o o' : Obj} (F : Fr h₀ L h m) (N : News h₀ L h news) (U : Upd src o o' news news')
    (k : Kp [src] h h') (e : h'.get? src = some o') : Fr h₀ L h' m ∧ News h₀ L h' news' := by
  obtain ⟨pre, post, rfl, rfl, h1, h2⟩ := U.split
  have D := N (src, o) (by simp)
  obtain ⟨oL, es, ep, hL, r⟩ := F.ns
  refine ⟨⟨⟨oL, es, ep, k _ _ hL fun q => D.2.1 (List.mem_singleton.mp q).symm, r⟩, fun b x q => k _ _ (F.keep b x q) fun z => ?_, F.above⟩, fun p hp => ?_⟩
  · rw [List.mem_singleton.mp z, D.2.2] at q; cases q
  · have old : ∀ p ∈ pre ++ post, p ∈ pre ++ (src, o) :: post ∧ p.1 ≠ src := fun p hp => by
      rcases List.mem_append.mp hp with q | q
      · exact ⟨List.mem_append_left _ q, h1 p q⟩
      · exact ⟨List.mem_append_right _ (.tail _ q), h2 p q⟩
    have fin : ∀ p ∈ pre ++ post, h'.get? p.1 = some p.2 ∧ p.1 ≠ L ∧ h₀.get? p.1 = none := fun p hp => by
      obtain ⟨a, b⟩ := old p hp
      exact ⟨k _ _ (N p a).1 fun z => b (List.mem_singleton.mp z), (N p a).2⟩
    rcases List.mem_append.mp hp with q | q
    · exact fin p (List.mem_append_left _ q)
    · rcases List.mem_cons.mp q with rfl | q
      · exact ⟨e, D.2⟩
      · exact fin p (List.mem_append_right _ q)
theorem below_here {A₀ : Around} {base h₀ h : Heap} {outer : List Env} {env : Env} {L : Addr} {m : Str → Option Value} (B : Below A₀ base outer h₀) (F : Fr h₀ L h m) (hf : env.frame = some L) (hke : env.scope.kind = .function) :
    Below (A₀.deeper env) base (env :: outer) h := by
  obtain ⟨oL, es, ep, hL, hLd, r⟩ := F.ns
  have hnew : base.get? L = none := by
    cases hq : base.get? L with
    | none => rfl
    | some o => exact absurd (Nat.lt_of_lt_of_le (Heap.lt_size (B.stays L o hq)) F.above) (Nat.lt_irrefl _)
  exact ⟨Around.frames_deeper B.stack, fun b o e => F.keep b o (B.stays b o e), by rw [hke]; decide, ⟨L, oL, hf, hnew, hL, fun vs q => by rw [hLd] at q; cases q⟩,
    B.frames.of_keeps fun b o e _ => ⟨o, F.keep b o e, rfl⟩⟩
theorem not_frame {A₀ : Around} {base h₀ h : Heap} {outer : List Env} {env : Env} {L a : Addr} {o : Obj} {news : List (Addr × Obj)} (B : Below A₀ base outer h₀) (N : News h₀ L h news) (hf : env.frame = some L) (hm : (a, o) ∈ news) :
    a ∉ (env :: outer).filterMap (·.frame) := fun hb => by
  obtain ⟨e', he, hf'⟩ := List.mem_filterMap.mp hb
  rcases List.mem_cons.mp he with rfl | he
  · exact (N _ hm).2.1 (Option.some.inj (hf'.symm.trans hf))
  · obtain ⟨L₁, o₁, h₁, h₂⟩ := funFrames_in B.frames e' he
    have : L₁ = a := Option.some.inj (h₁.symm.trans hf')
    rw [this, (N _ hm).2.2] at h₂; cases h₂
theorem none_base {A₀ : Around} {base h₀ : Heap} {outer : List Env} {a : Addr} (B : Below A₀ base outer h₀) (e : h₀.get? a = none) : base.get? a = none := by
  cases q : base.get? a with
  | none => rfl
  | some o => rw [B.stays _ _ q] at e; cases e

/-- a call that leaves its own as they were: all stands -/
theorem Kp.of {h g h' : Heap} {L : Addr} {m : Str → Option Value} {own news : List (Addr × Obj)} (hkp : ∀ b o, h.get? b = some o → b ∉ own.map (·.1) → g.get? b = some o) (hown : ∀ q ∈ own, h.get? q.1 = some q.2)
    (F : Fr g L h' m) (N : News g L h' news) (hsub : ∀ q ∈ own, q ∈ news) : Kp [] h h' := fun b o e _ => by
  by_cases hb : b ∈ own.map (·.1)
  · obtain ⟨q, hq, rfl⟩ := List.mem_map.mp hb
    rw [hown q hq] at e; cases e
    exact News.get N (hsub q hq)
  · exact F.keep b o (hkp b o e hb)
/-- all of as lie below d -/
@[reducible] def LtL (d : Nat) : List Nat → Prop
  | [] => True
  | a :: r => @LT.lt Nat _ a d ∧ LtL d r
/-- none of as is d -/
@[reducible] def NeL (d : Nat) : List Nat → Prop
  | [] => True
  | a :: r => @Ne Nat a d ∧ NeL d r
noncomputable def nthL : List Nat → Nat → Option Nat
  | [], _ => none
  | a :: _, 0 => some a
  | _ :: r, i + 1 => nthL r i
theorem ltl_at {a d : Nat} : ∀ {as : List Nat} (i : Nat), LtL d as → nthL as i = some a → @LT.lt Nat _ a d
  | [], _, _, e => nomatch e
  | _ :: _, 0, h, e => Option.some.inj e ▸ h.1
  | _ :: _, i + 1, h, e => ltl_at i h.2 e
theorem nel_at {a d : Nat} : ∀ {as : List Nat} (i : Nat), NeL d as → nthL as i = some a → @Ne Nat a d
  | [], _, _, e => nomatch e
  | _ :: _, 0, h, e => Option.some.inj e ▸ h.1
  | _ :: _, i + 1, h, e => nel_at i h.2 e
theorem ltl_of {d : Addr} : ∀ {news : List (Addr × Obj)}, (∀ q ∈ news, @LT.lt Nat _ q.1 d) → LtL d (news.map Prod.fst)
  | [], _ => trivial
  | _ :: _, h => ⟨h _ (List.Mem.head _), ltl_of fun q hq => h q (.tail _ hq)⟩
theorem nel_of {d : Addr} : ∀ {news : List (Addr × Obj)}, (∀ q ∈ news, @Ne Nat q.1 d) → NeL d (news.map Prod.fst)
  | [], _ => trivial
  | _ :: _, h => ⟨h _ (List.Mem.head _), nel_of fun q hq => h q (.tail _ hq)⟩
theorem ltl_1 {a0 d : Addr} {o0 : Obj} {P : Prop} (k : (let as : List Nat := [a0]; LtL d as → P)) : (∀ q ∈ [(a0, o0)], @LT.lt Nat _ q.1 d) → P := fun h => k (ltl_of h)
theorem nel_1 {a0 d : Addr} {o0 : Obj} {P : Prop} (k : (let as : List Nat := [a0]; NeL d as → P)) : (∀ q ∈ [(a0, o0)], @Ne Nat q.1 d) → P := fun h => k (nel_of h)
theorem ltl_2 {a0 a1 d : Addr} {o0 o1 : Obj} {P : Prop} (k : (let as : List Nat := [a0, a1]; LtL d as → P)) : (∀ q ∈ [(a0, o0), (a1, o1)], @LT.lt Nat _ q.1 d) → P := fun h => k (ltl_of h)
theorem nel_2 {a0 a1 d : Addr} {o0 o1 : Obj} {P : Prop} (k : (let as : List Nat := [a0, a1]; NeL d as → P)) : (∀ q ∈ [(a0, o0), (a1, o1)], @Ne Nat q.1 d) → P := fun h => k (nel_of h)
theorem ltl_3 {a0 a1 a2 d : Addr} {o0 o1 o2 : Obj} {P : Prop} (k : (let as : List Nat := [a0, a1, a2]; LtL d as → P)) : (∀ q ∈ [(a0, o0), (a1, o1), (a2, o2)], @LT.lt Nat _ q.1 d) → P := fun h => k (ltl_of h)
theorem nel_3 {a0 a1 a2 d : Addr} {o0 o1 o2 : Obj} {P : Prop} (k : (let as : List Nat := [a0, a1, a2]; NeL d as → P)) : (∀ q ∈ [(a0, o0), (a1, o1), (a2, o2)], @Ne Nat q.1 d) → P := fun h => k (nel_of h)
theorem ltl_4 {a0 a1 a2 a3 d : Addr} {o0 o1 o2 o3 : Obj} {P : Prop} (k : (let as : List Nat := [a0, a1, a2, a3]; LtL d as → P)) : (∀ q ∈ [(a0, o0), (a1, o1), (a2, o2), (a3, o3)], @LT.lt Nat _ q.1 d) → P := fun h => k (ltl_of h)
theorem nel_4 {a0 a1 a2 a3 d : Addr} {o0 o1 o2 o3 : Obj} {P : Prop} (k : (let as : List Nat := [a0, a1, a2, a3]; NeL d as → P)) : (∀ q ∈ [(a0, o0), (a1, o1), (a2, o2), (a3, o3)], @Ne Nat q.1 d) → P := fun h => k (nel_of h)
theorem ltl_5 {a0 a1 a2 a3 a4 d : Addr} {o0 o1 o2 o3 o4 : Obj} {P : Prop} (k : (let as : List Nat := [a0, a1, a2, a3, a4]; LtL d as → P)) : (∀ q ∈ [(a0, o0), (a1, o1), (a2, o2), (a3, o3), (a4, o4)], @LT.lt Nat _ q.1 d) → P := fun h => k (ltl_of h)
theorem nel_5 {a0 a1 a2 a3 a4 d : Addr} {o0 o1 o2 o3 o4 : Obj} {P : Prop} (k : (let as : List Nat := [a0, a1, a2, a3, a4]; NeL d as → P)) : (∀ q ∈ [(a0, o0), (a1, o1), (a2, o2), (a3, o3), (a4, o4)], @Ne Nat q.1 d) → P := fun h => k (nel_of h)
theorem ltl_6 {a0 a1 a2 a3 a4 a5 d : Addr} {o0 o1 o2 o3 o4 o5 : Obj} {P : Prop} (k : (let as : List Nat := [a0, a1, a2, a3, a4, a5]; LtL d as → P)) : (∀ q ∈ [(a0, o0), (a1, o1), (a2, o2), (a3, o3), (a4, o4), (a5, o5)], @LT.lt Nat _ q.1 d) → P := fun h => k (ltl_of h)
theorem nel_6 {a0 a1 a2 a3 a4 a5 d : Addr} {o0 o1 o2 o3 o4 o5 : Obj} {P : Prop} (k : (let as : List Nat := [a0, a1, a2, a3, a4, a5]; NeL d as → P)) : (∀ q ∈ [(a0, o0), (a1, o1), (a2, o2), (a3, o3), (a4, o4), (a5, o5)], @Ne Nat q.1 d) → P := fun h => k (nel_of h)
theorem ltl_7 {a0 a1 a2 a3 a4 a5 a6 d : Addr} {o0 o1 o2 o3 o4 o5 o6 : Obj} {P : Prop} (k : (let as : List Nat := [a0, a1, a2, a3, a4, a5, a6]; LtL d as → P)) : (∀ q ∈ [(a0, o0), (a1, o1), (a2, o2), (a3, o3), (a4, o4), (a5, o5), (a6, o6)], @LT.lt Nat _ q.1 d) → P := fun h => k (ltl_of h)
theorem nel_7 {a0 a1 a2 a3 a4 a5 a6 d : Addr} {o0 o1 o2 o3 o4 o5 o6 : Obj} {P : Prop} (k : (let as : List Nat := [a0, a1, a2, a3, a4, a5, a6]; NeL d as → P)) : (∀ q ∈ [(a0, o0), (a1, o1), (a2, o2), (a3, o3), (a4, o4), (a5, o5), (a6, o6)], @Ne Nat q.1 d) → P := fun h => k (nel_of h)
theorem ltl_8 {a0 a1 a2 a3 a4 a5 a6 a7 d : Addr} {o0 o1 o2 o3 o4 o5 o6 o7 : Obj} {P : Prop} (k : (let as : List Nat := [a0, a1, a2, a3, a4, a5, a6, a7]; LtL d as → P)) : (∀ q ∈ [(a0, o0), (a1, o1), (a2, o2), (a3, o3), (a4, o4), (a5, o5), (a6, o6), (a7, o7)], @LT.lt Nat _ q.1 d) → P := fun h => k (ltl_of h)
theorem nel_8 {a0 a1 a2 a3 a4 a5 a6 a7 d : Addr} {o0 o1 o2 o3 o4 o5 o6 o7 : Obj} {P : Prop} (k : (let as : List Nat := [a0, a1, a2, a3, a4, a5, a6, a7]; NeL d as → P)) : (∀ q ∈ [(a0, o0), (a1, o1), (a2, o2), (a3, o3), (a4, o4), (a5, o5), (a6, o6), (a7, o7)], @Ne Nat q.1 d) → P := fun h => k (nel_of h)
theorem ltl_9 {a0 a1 a2 a3 a4 a5 a6 a7 a8 d : Addr} {o0 o1 o2 o3 o4 o5 o6 o7 o8 : Obj} {P : Prop} (k : (let as : List Nat := [a0, a1, a2, a3, a4, a5, a6, a7, a8]; LtL d as → P)) : (∀ q ∈ [(a0, o0), (a1, o1), (a2, o2), (a3, o3), (a4, o4), (a5, o5), (a6, o6), (a7, o7), (a8, o8)], @LT.lt Nat _ q.1 d) → P := fun h => k (ltl_of h)
theorem nel_9 {a0 a1 a2 a3 a4 a5 a6 a7 a8 d : Addr} {o0 o1 o2 o3 o4 o5 o6 o7 o8 : Obj} {P : Prop} (k : (let as : List Nat := [a0, a1, a2, a3, a4, a5, a6, a7, a8]; NeL d as → P)) : (∀ q ∈ [(a0, o0), (a1, o1), (a2, o2), (a3, o3), (a4, o4), (a5, o5), (a6, o6), (a7, o7), (a8, o8)], @Ne Nat q.1 d) → P := fun h => k (nel_of h)
theorem ltl_10 {a0 a1 a2 a3 a4 a5 a6 a7 a8 a9 d : Addr} {o0 o1 o2 o3 o4 o5 o6 o7 o8 o9 : Obj} {P : Prop} (k : (let as : List Nat := [a0, a1, a2, a3, a4, a5, a6, a7, a8, a9]; LtL d as → P)) : (∀ q ∈ [(a0, o0), (a1, o1), (a2, o2), (a3, o3), (a4, o4), (a5, o5), (a6, o6), (a7, o7), (a8, o8), (a9, o9)], @LT.lt Nat _ q.1 d) → P := fun h => k (ltl_of h)
theorem nel_10 {a0 a1 a2 a3 a4 a5 a6 a7 a8 a9 d : Addr} {o0 o1 o2 o3 o4 o5 o6 o7 o8 o9 : Obj} {P : Prop} (k : (let as : List Nat := [a0, a1, a2, a3, a4, a5, a6, a7, a8, a9]; NeL d as → P)) : (∀ q ∈ [(a0, o0), (a1, o1), (a2, o2), (a3, o3), (a4, o4), (a5, o5), (a6, o6), (a7, o7), (a8, o8), (a9, o9)], @Ne Nat q.1 d) → P := fun h => k (nel_of h)
theorem ltl_11 {a0 a1 a2 a3 a4 a5 a6 a7 a8 a9 a10 d : Addr} {o0 o1 o2 o3 o4 o5 o6 o7 o8 o9 o10 : Obj} {P : Prop} (k : (let as : List Nat := [a0, a1, a2, a3, a4, a5, a6, a7, a8, a9, a10]; LtL d as → P)) : (∀ q ∈ [(a0, o0), (a1, o1), (a2, o2), (a3, o3), (a4, o4), (a5, o5), (a6, o6), (a7, o7), (a8, o8), (a9, o9), (a10, o10)], @LT.lt Nat _ q.1 d) → P := fun h => k (ltl_of h)
theorem nel_11 {a0 a1 a2 a3 a4 a5 a6 a7 a8 a9 a10 d : Addr} {o0 o1 o2 o3 o4 o5 o6 o7 o8 o9 o10 : Obj} {P : Prop} (k : (let as : List Nat := [a0, a1, a2, a3, a4, a5, a6, a7, a8, a9, a10]; NeL d as → P)) : (∀ q ∈ [(a0, o0), (a1, o1), (a2, o2), (a3, o3), (a4, o4), (a5, o5), (a6, o6), (a7, o7), (a8, o8), (a9, o9), (a10, o10)], @Ne Nat q.1 d) → P := fun h => k (nel_of h)
theorem ltl_12 {a0 a1 a2 a3 a4 a5 a6 a7 a8 a9 a10 a11 d : Addr} {o0 o1 o2 o3 o4 o5 o6 o7 o8 o9 o10 o11 : Obj} {P : Prop} (k : (let as : List Nat := [a0, a1, a2, a3, a4, a5, a6, a7, a8, a9, a10, a11]; LtL d as → P)) : (∀ q ∈ [(a0, o0), (a1, o1), (a2, o2), (a3, o3), (a4, o4), (a5, o5), (a6, o6), (a7, o7), (a8, o8), (a9, o9), (a10, o10), (a11, o11)], @LT.lt Nat _ q.1 d) → P := fun h => k (ltl_of h)
theorem nel_12 {a0 a1 a2 a3 a4 a5 a6 a7 a8 a9 a10 a11 d : Addr} {o0 o1 o2 o3 o4 o5 o6 o7 o8 o9 o10 o11 : Obj} {P : Prop} (k : (let as : List Nat := [a0, a1, a2, a3, a4, a5, a6, a7, a8, a9, a10, a11]; NeL d as → P)) : (∀ q ∈ [(a0, o0), (a1, o1), (a2, o2), (a3, o3), (a4, o4), (a5, o5), (a6, o6), (a7, o7), (a8, o8), (a9, o9), (a10, o10), (a11, o11)], @Ne Nat q.1 d) → P := fun h => k (nel_of h)
theorem ltl_13 {a0 a1 a2 a3 a4 a5 a6 a7 a8 a9 a10 a11 a12 d : Addr} {o0 o1 o2 o3 o4 o5 o6 o7 o8 o9 o10 o11 o12 : Obj} {P : Prop} (k : (let as : List Nat := [a0, a1, a2, a3, a4, a5, a6, a7, a8, a9, a10, a11, a12]; LtL d as → P)) : (∀ q ∈ [(a0, o0), (a1, o1), (a2, o2), (a3, o3), (a4, o4), (a5, o5), (a6, o6), (a7, o7), (a8, o8), (a9, o9), (a10, o10), (a11, o11), (a12, o12)], @LT.lt Nat _ q.1 d) → P := fun h => k (ltl_of h)
theorem nel_13 {a0 a1 a2 a3 a4 a5 a6 a7 a8 a9 a10 a11 a12 d : Addr} {o0 o1 o2 o3 o4 o5 o6 o7 o8 o9 o10 o11 o12 : Obj} {P : Prop} (k : (let as : List Nat := [a0, a1, a2, a3, a4, a5, a6, a7, a8, a9, a10, a11, a12]; NeL d as → P)) : (∀ q ∈ [(a0, o0), (a1, o1), (a2, o2), (a3, o3), (a4, o4), (a5, o5), (a6, o6), (a7, o7), (a8, o8), (a9, o9), (a10, o10), (a11, o11), (a12, o12)], @Ne Nat q.1 d) → P := fun h => k (nel_of h)
theorem ltl_14 {a0 a1 a2 a3 a4 a5 a6 a7 a8 a9 a10 a11 a12 a13 d : Addr} {o0 o1 o2 o3 o4 o5 o6 o7 o8 o9 o10 o11 o12 o13 : Obj} {P : Prop} (k : (let as : List Nat := [a0, a1, a2, a3, a4, a5, a6, a7, a8, a9, a10, a11, a12, a13]; LtL d as → P)) : (∀ q ∈ [(a0, o0), (a1, o1), (a2, o2), (a3, o3), (a4, o4), (a5, o5), (a6, o6), (a7, o7), (a8, o8), (a9, o9), (a10, o10), (a11, o11), (a12, o12), (a13, o13)], @LT.lt Nat _ q.1 d) → P := fun h => k (ltl_of h)
theorem nel_14 {a0 a1 a2 a3 a4 a5 a6 a7 a8 a9 a10 a11 a12 a13 d : Addr} {o0 o1 o2 o3 o4 o5 o6 o7 o8 o9 o10 o11 o12 o13 : Obj} {P : Prop} (k : (let as : List Nat := [a0, a1, a2, a3, a4, a5, a6, a7, a8, a9, a10, a11, a12, a13]; NeL d as → P)) : (∀ q ∈ [(a0, o0), (a1, o1), (a2, o2), (a3, o3), (a4, o4), (a5, o5), (a6, o6), (a7, o7), (a8, o8), (a9, o9), (a10, o10), (a11, o11), (a12, o12), (a13, o13)], @Ne Nat q.1 d) → P := fun h => k (nel_of h)
theorem ltl_15 {a0 a1 a2 a3 a4 a5 a6 a7 a8 a9 a10 a11 a12 a13 a14 d : Addr} {o0 o1 o2 o3 o4 o5 o6 o7 o8 o9 o10 o11 o12 o13 o14 : Obj} {P : Prop} (k : (let as : List Nat := [a0, a1, a2, a3, a4, a5, a6, a7, a8, a9, a10, a11, a12, a13, a14]; LtL d as → P)) : (∀ q ∈ [(a0, o0), (a1, o1), (a2, o2), (a3, o3), (a4, o4), (a5, o5), (a6, o6), (a7, o7), (a8, o8), (a9, o9), (a10, o10), (a11, o11), (a12, o12), (a13, o13), (a14, o14)], @LT.lt Nat _ q.1 d) → P := fun h => k (ltl_of h)
theorem nel_15 {a0 a1 a2 a3 a4 a5 a6 a7 a8 a9 a10 a11 a12 a13 a14 d : Addr} {o0 o1 o2 o3 o4 o5 o6 o7 o8 o9 o10 o11 o12 o13 o14 : Obj} {P : Prop} (k : (let as : List Nat := [a0, a1, a2, a3, a4, a5, a6, a7, a8, a9, a10, a11, a12, a13, a14]; NeL d as → P)) : (∀ q ∈ [(a0, o0), (a1, o1), (a2, o2), (a3, o3), (a4, o4), (a5, o5), (a6, o6), (a7, o7), (a8, o8), (a9, o9), (a10, o10), (a11, o11), (a12, o12), (a13, o13), (a14, o14)], @Ne Nat q.1 d) → P := fun h => k (nel_of h)
theorem ltl_16 {a0 a1 a2 a3 a4 a5 a6 a7 a8 a9 a10 a11 a12 a13 a14 a15 d : Addr} {o0 o1 o2 o3 o4 o5 o6 o7 o8 o9 o10 o11 o12 o13 o14 o15 : Obj} {P : Prop} (k : (let as : List Nat := [a0, a1, a2, a3, a4, a5, a6, a7, a8, a9, a10, a11, a12, a13, a14, a15]; LtL d as → P)) : (∀ q ∈ [(a0, o0), (a1, o1), (a2, o2), (a3, o3), (a4, o4), (a5, o5), (a6, o6), (a7, o7), (a8, o8), (a9, o9), (a10, o10), (a11, o11), (a12, o12), (a13, o13), (a14, o14), (a15, o15)], @LT.lt Nat _ q.1 d) → P := fun h => k (ltl_of h)
theorem nel_16 {a0 a1 a2 a3 a4 a5 a6 a7 a8 a9 a10 a11 a12 a13 a14 a15 d : Addr} {o0 o1 o2 o3 o4 o5 o6 o7 o8 o9 o10 o11 o12 o13 o14 o15 : Obj} {P : Prop} (k : (let as : List Nat := [a0, a1, a2, a3, a4, a5, a6, a7, a8, a9, a10, a11, a12, a13, a14, a15]; NeL d as → P)) : (∀ q ∈ [(a0, o0), (a1, o1), (a2, o2), (a3, o3), (a4, o4), (a5, o5), (a6, o6), (a7, o7), (a8, o8), (a9, o9), (a10, o10), (a11, o11), (a12, o12), (a13, o13), (a14, o14), (a15, o15)], @Ne Nat q.1 d) → P := fun h => k (nel_of h)
theorem ltl_17 {a0 a1 a2 a3 a4 a5 a6 a7 a8 a9 a10 a11 a12 a13 a14 a15 a16 d : Addr} {o0 o1 o2 o3 o4 o5 o6 o7 o8 o9 o10 o11 o12 o13 o14 o15 o16 : Obj} {P : Prop} (k : (let as : List Nat := [a0, a1, a2, a3, a4, a5, a6, a7, a8, a9, a10, a11, a12, a13, a14, a15, a16]; LtL d as → P)) : (∀ q ∈ [(a0, o0), (a1, o1), (a2, o2), (a3, o3), (a4, o4), (a5, o5), (a6, o6), (a7, o7), (a8, o8), (a9, o9), (a10, o10), (a11, o11), (a12, o12), (a13, o13), (a14, o14), (a15, o15), (a16, o16)], @LT.lt Nat _ q.1 d) → P := fun h => k (ltl_of h)
theorem nel_17 {a0 a1 a2 a3 a4 a5 a6 a7 a8 a9 a10 a11 a12 a13 a14 a15 a16 d : Addr} {o0 o1 o2 o3 o4 o5 o6 o7 o8 o9 o10 o11 o12 o13 o14 o15 o16 : Obj} {P : Prop} (k : (let as : List Nat := [a0, a1, a2, a3, a4, a5, a6, a7, a8, a9, a10, a11, a12, a13, a14, a15, a16]; NeL d as → P)) : (∀ q ∈ [(a0, o0), (a1, o1), (a2, o2), (a3, o3), (a4, o4), (a5, o5), (a6, o6), (a7, o7), (a8, o8), (a9, o9), (a10, o10), (a11, o11), (a12, o12), (a13, o13), (a14, o14), (a15, o15), (a16, o16)], @Ne Nat q.1 d) → P := fun h => k (nel_of h)
theorem ltl_18 {a0 a1 a2 a3 a4 a5 a6 a7 a8 a9 a10 a11 a12 a13 a14 a15 a16 a17 d : Addr} {o0 o1 o2 o3 o4 o5 o6 o7 o8 o9 o10 o11 o12 o13 o14 o15 o16 o17 : Obj} {P : Prop} (k : (let as : List Nat := [a0, a1, a2, a3, a4, a5, a6, a7, a8, a9, a10, a11, a12, a13, a14, a15, a16, a17]; LtL d as → P)) : (∀ q ∈ [(a0, o0), (a1, o1), (a2, o2), (a3, o3), (a4, o4), (a5, o5), (a6, o6), (a7, o7), (a8, o8), (a9, o9), (a10, o10), (a11, o11), (a12, o12), (a13, o13), (a14, o14), (a15, o15), (a16, o16), (a17, o17)], @LT.lt Nat _ q.1 d) → P := fun h => k (ltl_of h)
theorem nel_18 {a0 a1 a2 a3 a4 a5 a6 a7 a8 a9 a10 a11 a12 a13 a14 a15 a16 a17 d : Addr} {o0 o1 o2 o3 o4 o5 o6 o7 o8 o9 o10 o11 o12 o13 o14 o15 o16 o17 : Obj} {P : Prop} (k : (let as : List Nat := [a0, a1, a2, a3, a4, a5, a6, a7, a8, a9, a10, a11, a12, a13, a14, a15, a16, a17]; NeL d as → P)) : (∀ q ∈ [(a0, o0), (a1, o1), (a2, o2), (a3, o3), (a4, o4), (a5, o5), (a6, o6), (a7, o7), (a8, o8), (a9, o9), (a10, o10), (a11, o11), (a12, o12), (a13, o13), (a14, o14), (a15, o15), (a16, o16), (a17, o17)], @Ne Nat q.1 d) → P := fun h => k (nel_of h)
theorem ltl_19 {a0 a1 a2 a3 a4 a5 a6 a7 a8 a9 a10 a11 a12 a13 a14 a15 a16 a17 a18 d : Addr} {o0 o1 o2 o3 o4 o5 o6 o7 o8 o9 o10 o11 o12 o13 o14 o15 o16 o17 o18 : Obj} {P : Prop} (k : (let as : List Nat := [a0, a1, a2, a3, a4, a5, a6, a7, a8, a9, a10, a11, a12, a13, a14, a15, a16, a17, a18]; LtL d as → P)) : (∀ q ∈ [(a0, o0), (a1, o1), (a2, o2), (a3, o3), (a4, o4), (a5, o5), (a6, o6), (a7, o7), (a8, o8), (a9, o9), (a10, o10), (a11, o11), (a12, o12), (a13, o13), (a14, o14), (a15, o15), (a16, o16), (a17, o17), (a18, o18)], @LT.lt Nat _ q.1 d) → P := fun h => k (ltl_of h)
theorem nel_19 {a0 a1 a2 a3 a4 a5 a6 a7 a8 a9 a10 a11 a12 a13 a14 a15 a16 a17 a18 d : Addr} {o0 o1 o2 o3 o4 o5 o6 o7 o8 o9 o10 o11 o12 o13 o14 o15 o16 o17 o18 : Obj} {P : Prop} (k : (let as : List Nat := [a0, a1, a2, a3, a4, a5, a6, a7, a8, a9, a10, a11, a12, a13, a14, a15, a16, a17, a18]; NeL d as → P)) : (∀ q ∈ [(a0, o0), (a1, o1), (a2, o2), (a3, o3), (a4, o4), (a5, o5), (a6, o6), (a7, o7), (a8, o8), (a9, o9), (a10, o10), (a11, o11), (a12, o12), (a13, o13), (a14, o14), (a15, o15), (a16, o16), (a17, o17), (a18, o18)], @Ne Nat q.1 d) → P := fun h => k (nel_of h)
theorem ltl_20 {a0 a1 a2 a3 a4 a5 a6 a7 a8 a9 a10 a11 a12 a13 a14 a15 a16 a17 a18 a19 d : Addr} {o0 o1 o2 o3 o4 o5 o6 o7 o8 o9 o10 o11 o12 o13 o14 o15 o16 o17 o18 o19 : Obj} {P : Prop} (k : (let as : List Nat := [a0, a1, a2, a3, a4, a5, a6, a7, a8, a9, a10, a11, a12, a13, a14, a15, a16, a17, a18, a19]; LtL d as → P)) : (∀ q ∈ [(a0, o0), (a1, o1), (a2, o2), (a3, o3), (a4, o4), (a5, o5), (a6, o6), (a7, o7), (a8, o8), (a9, o9), (a10, o10), (a11, o11), (a12, o12), (a13, o13), (a14, o14), (a15, o15), (a16, o16), (a17, o17), (a18, o18), (a19, o19)], @LT.lt Nat _ q.1 d) → P := fun h => k (ltl_of h)
theorem nel_20 {a0 a1 a2 a3 a4 a5 a6 a7 a8 a9 a10 a11 a12 a13 a14 a15 a16 a17 a18 a19 d : Addr} {o0 o1 o2 o3 o4 o5 o6 o7 o8 o9 o10 o11 o12 o13 o14 o15 o16 o17 o18 o19 : Obj} {P : Prop} (k : (let as : List Nat := [a0, a1, a2, a3, a4, a5, a6, a7, a8, a9, a10, a11, a12, a13, a14, a15, a16, a17, a18, a19]; NeL d as → P)) : (∀ q ∈ [(a0, o0), (a1, o1), (a2, o2), (a3, o3), (a4, o4), (a5, o5), (a6, o6), (a7, o7), (a8, o8), (a9, o9), (a10, o10), (a11, o11), (a12, o12), (a13, o13), (a14, o14), (a15, o15), (a16, o16), (a17, o17), (a18, o18), (a19, o19)], @Ne Nat q.1 d) → P := fun h => k (nel_of h)
theorem ltl_21 {a0 a1 a2 a3 a4 a5 a6 a7 a8 a9 a10 a11 a12 a13 a14 a15 a16 a17 a18 a19 a20 d : Addr} {o0 o1 o2 o3 o4 o5 o6 o7 o8 o9 o10 o11 o12 o13 o14 o15 o16 o17 o18 o19 o20 : Obj} {P : Prop} (k : (let as : List Nat := [a0, a1, a2, a3, a4, a5, a6, a7, a8, a9, a10, a11, a12, a13, a14, a15, a16, a17, a18, a19, a20]; LtL d as → P)) : (∀ q ∈ [(a0, o0), (a1, o1), (a2, o2), (a3, o3), (a4, o4), (a5, o5), (a6, o6), (a7, o7), (a8, o8), (a9, o9), (a10, o10), (a11, o11), (a12, o12), (a13, o13), (a14, o14), (a15, o15), (a16, o16), (a17, o17), (a18, o18), (a19, o19), (a20, o20)], @LT.lt Nat _ q.1 d) → P := fun h => k (ltl_of h)
theorem nel_21 {a0 a1 a2 a3 a4 a5 a6 a7 a8 a9 a10 a11 a12 a13 a14 a15 a16 a17 a18 a19 a20 d : Addr} {o0 o1 o2 o3 o4 o5 o6 o7 o8 o9 o10 o11 o12 o13 o14 o15 o16 o17 o18 o19 o20 : Obj} {P : Prop} (k : (let as : List Nat := [a0, a1, a2, a3, a4, a5, a6, a7, a8, a9, a10, a11, a12, a13, a14, a15, a16, a17, a18, a19, a20]; NeL d as → P)) : (∀ q ∈ [(a0, o0), (a1, o1), (a2, o2), (a3, o3), (a4, o4), (a5, o5), (a6, o6), (a7, o7), (a8, o8), (a9, o9), (a10, o10), (a11, o11), (a12, o12), (a13, o13), (a14, o14), (a15, o15), (a16, o16), (a17, o17), (a18, o18), (a19, o19), (a20, o20)], @Ne Nat q.1 d) → P := fun h => k (nel_of h)
theorem ltl_22 {a0 a1 a2 a3 a4 a5 a6 a7 a8 a9 a10 a11 a12 a13 a14 a15 a16 a17 a18 a19 a20 a21 d : Addr} {o0 o1 o2 o3 o4 o5 o6 o7 o8 o9 o10 o11 o12 o13 o14 o15 o16 o17 o18 o19 o20 o21 : Obj} {P : Prop} (k : (let as : List Nat := [a0, a1, a2, a3, a4, a5, a6, a7, a8, a9, a10, a11, a12, a13, a14, a15, a16, a17, a18, a19, a20, a21]; LtL d as → P)) : (∀ q ∈ [(a0, o0), (a1, o1), (a2, o2), (a3, o3), (a4, o4), (a5, o5), (a6, o6), (a7, o7), (a8, o8), (a9, o9), (a10, o10), (a11, o11), (a12, o12), (a13, o13), (a14, o14), (a15, o15), (a16, o16), (a17, o17), (a18, o18), (a19, o19), (a20, o20), (a21, o21)], @LT.lt Nat _ q.1 d) → P := fun h => k (ltl_of h)
theorem nel_22 {a0 a1 a2 a3 a4 a5 a6 a7 a8 a9 a10 a11 a12 a13 a14 a15 a16 a17 a18 a19 a20 a21 d : Addr} {o0 o1 o2 o3 o4 o5 o6 o7 o8 o9 o10 o11 o12 o13 o14 o15 o16 o17 o18 o19 o20 o21 : Obj} {P : Prop} (k : (let as : List Nat := [a0, a1, a2, a3, a4, a5, a6, a7, a8, a9, a10, a11, a12, a13, a14, a15, a16, a17, a18, a19, a20, a21]; NeL d as → P)) : (∀ q ∈ [(a0, o0), (a1, o1), (a2, o2), (a3, o3), (a4, o4), (a5, o5), (a6, o6), (a7, o7), (a8, o8), (a9, o9), (a10, o10), (a11, o11), (a12, o12), (a13, o13), (a14, o14), (a15, o15), (a16, o16), (a17, o17), (a18, o18), (a19, o19), (a20, o20), (a21, o21)], @Ne Nat q.1 d) → P := fun h => k (nel_of h)
theorem le_big {a b c : Nat} (h : a ≤ b) (e : Nat.ble b c = true) : a ≤ c := Nat.le_trans h (Nat.le_of_ble_eq_true e)
theorem room0 {d b R : Nat} (h : d + b < R) : d < R := Nat.lt_of_le_of_lt (Nat.le_add_right d b) h
theorem room1 {d a b R : Nat} (h : d + b < R) (e : Nat.ble a b = true) : d + a < R := Nat.lt_of_le_of_lt (Nat.add_le_add_left (Nat.le_of_ble_eq_true e) d) h
theorem room2 {d a a2 b R : Nat} (h : d + b < R) (e : Nat.ble (a + a2) b = true) : d + a + a2 < R := by rw [Nat.add_assoc]; exact room1 h e
theorem room3 {d a a2 a3 b R : Nat} (h : d + b < R) (e : Nat.ble (a + a2 + a3) b = true) : d + a + a2 + a3 < R := by rw [Nat.add_assoc d, Nat.add_assoc d]; exact room1 h e
/-- the source's two numbers (with what is known of them) -/
def SrcR : Type := { q : (Int × Int) × (Tok × Tok) × Nat // 0 ≤ q.1.1 ∧ 0 ≤ q.1.2 ∧ q.1.2 < 2147483647 }
/-- the source's list -/
noncomputable def srcO (R : SrcR) : Obj := W.listOf #[.int R.1.1.1 R.1.2.1.1, .int R.1.1.2 R.1.2.1.2] R.1.2.2
noncomputable def SrcR.of (x y : Int) (tx ty : Tok) (n : Nat) (a : 0 ≤ x) (b : 0 ≤ y) (c : y < 2147483647) : SrcR := ⟨((x, y), (tx, ty), n), a, b, c⟩

local macro_rules | `(tactic| k_room) => `(tactic| k_extra "zk_room")
local macro_rules | `(tactic| k_units) => `(tactic| k_extra "zk_units")
local macro_rules | `(tactic| k_lt $h:ident) => `(tactic| (revert $h; k_extra "zK"))
local macro_rules | `(tactic| k_ne) => `(tactic| k_extra "zk_ne")
theorem lay_11 : True := by
  k_with "zk_room" => (((try simp only [depth_mark, depth_under_make, depth_under_kw, depth_in1, depth_deeper, depth_Ar]); first | k_extra "zR" | omega))
  k_with "zk_units" => (((try simp only [units_in1, units_deeper, Around.mark_units, units_Ar]); first | k_extra "zR" | omega))
  k_with "binaryOp Mult int int" => (k_here; (simp only [getD2_0, getD2_1]); with_reducible refine mul_int ?_)
  k_with "execs cons" => (k_here; (with_reducible show wpAny _ _ _ _ _ (Shared.mk _ _ _ (_ + 1) _)); refine gen_toks ?_; intro tk'₉)
  k_with "execs nil" => (k_here; (with_reducible show wpAny _ _ _ _ _ (Shared.mk _ _ _ (_ + 1) _)); refine gen_toks ?_; intro tk'₉)
  k_with "zK" => (first | (refine ltl_1 ?_; intro _ _) | (refine ltl_2 ?_; intro _ _) | (refine ltl_3 ?_; intro _ _) | (refine ltl_4 ?_; intro _ _) | (refine ltl_5 ?_; intro _ _) | (refine ltl_6 ?_; intro _ _) | (refine ltl_7 ?_; intro _ _) | (refine ltl_8 ?_; intro _ _) | (refine ltl_9 ?_; intro _ _) | (refine ltl_10 ?_; intro _ _) | (refine ltl_11 ?_; intro _ _) | (refine ltl_12 ?_; intro _ _) | (refine ltl_13 ?_; intro _ _) | (refine ltl_14 ?_; intro _ _) | (refine ltl_15 ?_; intro _ _) | (refine ltl_16 ?_; intro _ _) | (refine ltl_17 ?_; intro _ _) | (refine ltl_18 ?_; intro _ _) | (refine ltl_19 ?_; intro _ _) | (refine ltl_20 ?_; intro _ _) | (refine ltl_21 ?_; intro _ _) | (refine ltl_22 ?_; intro _ _) | (refine nel_1 ?_; intro _ _) | (refine nel_2 ?_; intro _ _) | (refine nel_3 ?_; intro _ _) | (refine nel_4 ?_; intro _ _) | (refine nel_5 ?_; intro _ _) | (refine nel_6 ?_; intro _ _) | (refine nel_7 ?_; intro _ _) | (refine nel_8 ?_; intro _ _) | (refine nel_9 ?_; intro _ _) | (refine nel_10 ?_; intro _ _) | (refine nel_11 ?_; intro _ _) | (refine nel_12 ?_; intro _ _) | (refine nel_13 ?_; intro _ _) | (refine nel_14 ?_; intro _ _) | (refine nel_15 ?_; intro _ _) | (refine nel_16 ?_; intro _ _) | (refine nel_17 ?_; intro _ _) | (refine nel_18 ?_; intro _ _) | (refine nel_19 ?_; intro _ _) | (refine nel_20 ?_; intro _ _) | (refine nel_21 ?_; intro _ _) | (refine nel_22 ?_; intro _ _) | (intro kq; have := allLt_of kq; clear kq; (simp only [AllLt, and_true] at this); (repeat (have kqq := And.left this; replace this := And.right this))) | intro _)
  k_with "zI" => (first | exact (rfl : nthL _ 0 = _) | exact (rfl : nthL _ 1 = _) | exact (rfl : nthL _ 2 = _) | exact (rfl : nthL _ 3 = _) | exact (rfl : nthL _ 4 = _) | exact (rfl : nthL _ 5 = _) | exact (rfl : nthL _ 6 = _) | exact (rfl : nthL _ 7 = _) | exact (rfl : nthL _ 8 = _) | exact (rfl : nthL _ 9 = _) | exact (rfl : nthL _ 10 = _) | exact (rfl : nthL _ 11 = _) | exact (rfl : nthL _ 12 = _) | exact (rfl : nthL _ 13 = _) | exact (rfl : nthL _ 14 = _) | exact (rfl : nthL _ 15 = _) | exact (rfl : nthL _ 16 = _) | exact (rfl : nthL _ 17 = _) | exact (rfl : nthL _ 18 = _) | exact (rfl : nthL _ 19 = _) | exact (rfl : nthL _ 20 = _) | exact (rfl : nthL _ 21 = _))
  k_with "zN" => (first | with_reducible assumption | exact Ne.symm (by with_reducible assumption) | exact Nat.ne_of_lt (by with_reducible assumption) | exact Nat.ne_of_gt (by with_reducible assumption) | (refine' Nat.ne_of_lt (ltl_at _ ?h₉ ?m₉); (case h₉ => with_reducible assumption); (case m₉ => walk_at "zI")) | (refine' Nat.ne_of_gt (ltl_at _ ?h₉ ?m₉); (case h₉ => with_reducible assumption); (case m₉ => walk_at "zI")) | (refine' nel_at _ ?h₉ ?m₉; (case h₉ => with_reducible assumption); (case m₉ => walk_at "zI")) | (refine' Ne.symm (nel_at _ ?h₉ ?m₉); (case h₉ => with_reducible assumption); (case m₉ => walk_at "zI")) | omega)
  k_with "zk_ne" => ((refine neN ?_; (try dsimp only); k_extra "zN"))
  k_with "zR" => (first | (refine' room1 ?h₉ ?e₉; (case h₉ => with_reducible assumption); (case e₉ => exact rfl)) | (refine' room2 ?h₉ ?e₉; (case h₉ => with_reducible assumption); (case e₉ => exact rfl)) | (refine' room3 ?h₉ ?e₉; (case h₉ => with_reducible assumption); (case e₉ => exact rfl)) | (refine' room0 ?h₉; (case h₉ => with_reducible assumption)))
  k_with "zB" => (refine' le_big ?h₉ ?e₉; (case h₉ => with_reducible assumption); (case e₉ => exact rfl))
  trivial

theorem exc_check {w : World} {prog : Program} {A : Around} {K : Frag} {C e : Addr} {dd : Option Addr} {sl : Array (Option Value)} {rest : List Value} {dt : Data} {h : Heap} {g : Array GenState} {d : Drawn} {t : Nat} {os : OsState} {Q : Unit → Shared → Prop} {E : Value → Shared → Prop}
    (X : K.In h) (hsub : subIn K (.ref C) (.type "Exception") = some true) (hkt : ktsIn K C "BaseException" = true) (he : h.get? e = some { cls := .ref C, dict := dd, data := dt, slots := sl }) (hq : Q () ⟨h, g, d, t, os⟩) :
    wpAny (model prog w) A (checkBuiltinCall "Exception.__init__" ⟨.ref e :: rest, []⟩) Q E ⟨h, g, d, t, os⟩ := by
  have F := PySem.F.excBase_Exception
  have hshort := F.noStar
  obtain ⟨nm, q', N, bs, bm, hdct, sn, sub, ab, col, dc, k0, k1, k2, k3, k5, newId, hC, -, -⟩ := kts_cls X hkt
  simp only [checkBuiltinCall, F.initKind, F.initSplit, F.initRow]
  repeat (first | (with_reducible refine wpAny_loadPart_at he ?_) | (with_reducible refine wpAny_loadPart_at hC ?_) | (with_reducible refine Looks.at (looks_subIn X hsub) ?_) | wp_step)
  refine wpAny_onRaise ?_
  rw [show ∀ (a b : String) (n : Nat), Bind.check ⟨.positional, "*", "Exception", .self, [⟨"args", .varPos, false⟩]⟩ a b n (List.map (fun x => x.fst) ({ pos := Value.ref e :: rest } : Args).kw) = pure () from
    fun a b n => check_star_args _ _ _ _ _ _]
  exact wpAny_pure hq
theorem exc_init {w : World} {prog : Program} {A : Around} {s : Shared} {Q E : Value → Shared → Prop} {K : Frag} {C e : Addr} {dd : Option Addr} {sl : Array (Option Value)} {v a1 a2 a3 a4 a5 : Value} {t₀ : Addr}
    (X : K.In s.heap) (hsub : subIn K (.ref C) (.type "Exception") = some true) (hkt : ktsIn K C "BaseException" = true)
    (he : s.heap.get? e = some { cls := .ref C, dict := dd, data := .fields #[.ref t₀, a1, a2, a3, a4, a5], slots := sl })
    (h : ∀ h', Kp [e] s.heap h' → s.heap.objs.size < h'.objs.size → h'.get? e = some { cls := .ref C, dict := dd, data := .fields #[.ref s.heap.objs.size, a1, a2, a3, a4, a5], slots := sl } → Q .none { s with heap := h' }) :
    wpAny (model prog w) A (call (.builtin "Exception.__init__") [.ref e, v]) Q E s := by
  have F := PySem.F.excBase_Exception
  obtain ⟨hp, g, d, tk, os⟩ := s
  refine wpAny_call (codeAny_call_builtin F.init.plain F.initEntry (exc_check X hsub hkt he ?_))
  wp_walk
  refine h _ (fun b o eb nb => ?_) ?_ ?_
  · rw [Heap.get?_update_other _ _ (fun z => nb (List.mem_singleton.mpr z.symm))]
    exact Heap.get?_push_of_some _ eb
  · rw [Heap.size_after_update, Heap.size_push]; exact Nat.lt_succ_self _
  · rw [Heap.get?_update_self _ (Heap.get?_push_of_some _ he) rfl]
    rfl
theorem exc_refuse (self : Value) : refuseLoop self "__setattr__" [.ref 44, .ref 31, .type "Exception", .type "BaseException", .type "object"] = pure () := by
  rw [refuseLoop_ref, refuseLoop_ref]
  kernel_rfl
theorem exc_setattr {w : World} {prog : Program} {A : Around} {s : Shared} {Q : Unit → Shared → Prop} {E : Value → Shared → Prop} {K : Frag} {C e : Addr} {cd : ClassData} {sl : Array (Option Value)} {v : Value} {vs : Array Value} {name : Str}
    (X : K.In s.heap) (he : s.heap.get? e = some { cls := .ref C, data := .fields vs, slots := sl }) (hs : findIn K (.ref C) "__setattr__" = some (some (.builtin "object.__setattr__")))
    (hob : subIn K (.ref C) (.type "object") = some true) (hcd : clsIn K C = some cd) (href : refuseLoop (.ref e) "__setattr__" cd.mro = pure ()) (hdi : cd.hasDict = true) (ha : findIn K (.ref C) name = some none)
    (h : ∀ h' d tk', Kp [e] s.heap h' → h'.get? e = some { cls := .ref C, dict := some d, data := .fields vs, slots := sl } → Q () { s with heap := h', toks := tk' }) :
    wpAny (model prog w) A (setAttr (.ref e) name v) Q E s := by
  obtain ⟨hp, g, d, tk, os⟩ := s
  have X : K.In hp := X
  have he : hp.get? e = some { cls := .ref C, data := .fields vs, slots := sl } := he
  have SF := PySem.F.store_object
  have LT : Looks (model prog w) hp (typeOf (.ref e)) (.ref C) := (Looks.ld he).andThen .now
  have hm : Looks (model prog w) hp (mroOf (.ref C)) cd.mro := (looks_clsIn X hcd).andThen .now
  have sub : Looks (model prog w) hp (isInstance (.ref e) (.type "object")) true := LT.andThen (looks_subIn X hob)
  refine wpAny_bind (wpAny_mkText (wpAny_bind (wpAny_bind (wpAny_bind (LT.at ((looks_findIn X hs).at (wpAny_holding ?_)))))))
  rw [SF.slot.bind]
  refine wpAny_bind (wpAny_pure (wpAny_bind (wpAny_call ?_)))
  refine codeAny_call_builtin SF.slot.plain SF.entry (@check_slot (model prog w) _ _ _ "object.__setattr__" "object" "__setattr__" (.ref e) [.str name tk, v] [] _ SF.kind SF.split sub (SF.args (.ref e) (.str name tk) v) ?_)
  simp only [List.cons_append, List.nil_append]
  rw [osa_eq, refuse_eq]
  refine wpAny_bind (wpAny_bind (LT.at (wpAny_bind (hm.at ?_))))
  rw [href]
  refine wpAny_pure (wpAny_bind (LT.at (wpAny_bind ((looks_findIn X ha).at (wpAny_bind ?_)))))
  refine wpAny_pure ?_
  refine wpAny_bind (wpAny_pure (wpAny_bind (wpAny_bind (wpAny_loadPart he (wpAny_bind ((looks_clsIn X hcd).at ?_))))))
  rw [hdi]
  simp only [Bool.not_true, Bool.false_eq_true, if_false, typeHasDict, Bool.or_false]
  refine wpAny_bind (wpAny_bind (wpAny_alloc ?_))
  have he1 : (hp.push { cls := .type "dict", data := .dict #[] }).get? e = some { cls := .ref C, data := .fields vs, slots := sl } := Heap.get?_push_of_some _ he
  have hd1 : (hp.push { cls := .type "dict", data := .dict #[] }).get? hp.objs.size = some { cls := .type "dict", data := .dict #[] } := Heap.get?_push_size _ rfl
  have ne : hp.objs.size ≠ e := Nat.ne_of_gt (Heap.lt_size he)
  generalize hp2 : (hp.push { cls := .type "dict", data := .dict #[] }).update e (fun o => { cls := o.cls, dict := some hp.objs.size, data := o.data, slots := o.slots }) = h2
  have he2 : h2.get? e = some { cls := .ref C, dict := some hp.objs.size, data := .fields vs, slots := sl } := by rw [← hp2, Heap.get?_update_self _ he1 rfl]
  have hd2 : h2.get? hp.objs.size = some { cls := .type "dict", data := .dict #[] } := by rw [← hp2, Heap.get?_update_other _ _ (Ne.symm ne)]; exact hd1
  have k2 : Kp [e] hp h2 := fun b o eb nb => by
    rw [← hp2, Heap.get?_update_other _ _ (fun z => nb (List.mem_singleton.mpr z.symm))]; exact Heap.get?_push_of_some _ eb
  refine wpAny_pure ?_
  refine wpAny_bind (wpAny_update' he1 ?_)
  rw [hp2]
  refine wpAny_pure (wpAny_bind (wpAny_pure (wpAny_bind ?_)))
  unfold nsSet
  refine wpAny_bind (wpAny_bind (wpAny_askSetting (wpAny_pure (wpAny_bind (wpAny_mkText (wpAny_bind (wpAny_loadPart' hd2 ?_)))))))
  dsimp only
  rw [show aRefKeyMayBeTheName name #[] = false from rfl]
  simp only [Bool.false_eq_true, if_false]
  refine wpAny_updatePart' hd2 ?_
  have hd3 : (h2.update hp.objs.size (Obj.putName name (PyData.keyHash w.params name) (.str name (tk + 1)) v)).get? hp.objs.size = some (dictOf [⟨PyData.keyHash w.params name, .str name (tk + 1), v⟩] 1) := by
    rw [Heap.get?_update_self _ hd2 rfl]
    exact congrArg some (putName_dict name _ _ v [] 0)
  have he3 : (h2.update hp.objs.size (Obj.putName name (PyData.keyHash w.params name) (.str name (tk + 1)) v)).get? e = some { cls := .ref C, dict := some hp.objs.size, data := .fields vs, slots := sl } := by
    rw [Heap.get?_update_other _ _ ne]; exact he2
  have k3 : Kp [e] hp (h2.update hp.objs.size (Obj.putName name (PyData.keyHash w.params name) (.str name (tk + 1)) v)) := fun b o eb nb => by
    rw [Heap.get?_update_other _ _ (Nat.ne_of_gt (Heap.lt_size eb))]; exact k2 b o eb nb
  refine wpAny_bind (wpAny_lookBehind hd3 (pastItsLine_dict (by rw [List.size_toArray, sizeLine_eq]; simp)) ?_)
  exact wpAny_pure (wpAny_pure (wpAny_pure (h _ _ _ k3 he3)))
theorem exc_init_line {w : World} {prog : Program} {A : Around} {s : Shared} {Q E : Value → Shared → Prop} {K : Frag} {C e L : Addr} {dd : Option Addr} {sl : Array (Option Value)} {v a1 a2 a3 a4 a5 : Value} {t₀ : Addr}
    {h₀ : Heap} {m : Str → Option Value} {news : List (Addr × Obj)} {news' : Obj → List (Addr × Obj)}
    (F : Fr h₀ L s.heap m) (N : News h₀ L s.heap news) (X : K.In h₀) (hsub : subIn K (.ref C) (.type "Exception") = some true) (hkt : ktsIn K C "BaseException" = true)
    (U : ∀ o', Upd e { cls := .ref C, dict := dd, data := .fields #[.ref t₀, a1, a2, a3, a4, a5], slots := sl } o' news (news' o'))
    (h : ∀ h' t', Fr h₀ L h' m → News h₀ L h' (news' { cls := .ref C, dict := dd, data := .fields #[.ref t', a1, a2, a3, a4, a5], slots := sl }) → Q .none { s with heap := h' }) :
    wpAny (model prog w) A (call (.builtin "Exception.__init__") [.ref e, v]) Q E s := by
  have mem : (e, ({ cls := .ref C, dict := dd, data := .fields #[.ref t₀, a1, a2, a3, a4, a5], slots := sl } : Obj)) ∈ news := by
    obtain ⟨pre, post, rfl, _⟩ := (U default).split
    simp
  refine exc_init (X.keeps F.keep) hsub hkt (N _ mem).1 fun h' k _ eq => ?_
  obtain ⟨F', N'⟩ := use_kp1 F N (U _) k eq
  exact h h' _ F' N'
theorem exc_setattr_line {w : World} {prog : Program} {A : Around} {s : Shared} {Q : Unit → Shared → Prop} {E : Value → Shared → Prop} {K : Frag} {C e L : Addr} {cd : ClassData} {sl : Array (Option Value)} {v : Value} {vs : Array Value} {name : Str}
    {h₀ : Heap} {m : Str → Option Value} {news : List (Addr × Obj)} {news' : Obj → List (Addr × Obj)}
    (F : Fr h₀ L s.heap m) (N : News h₀ L s.heap news) (X : K.In h₀) (U : ∀ o', Upd e { cls := .ref C, data := .fields vs, slots := sl } o' news (news' o')) (hs : findIn K (.ref C) "__setattr__" = some (some (.builtin "object.__setattr__")))
    (hob : subIn K (.ref C) (.type "object") = some true) (hcd : clsIn K C = some cd) (href : refuseLoop (.ref e) "__setattr__" cd.mro = pure ()) (hdi : cd.hasDict = true) (ha : findIn K (.ref C) name = some none)
    (h : ∀ h' d tk', Fr h₀ L h' m → News h₀ L h' (news' { cls := .ref C, dict := some d, data := .fields vs, slots := sl }) → Q () { s with heap := h', toks := tk' }) :
    wpAny (model prog w) A (setAttr (.ref e) name v) Q E s := by
  have mem : (e, ({ cls := .ref C, data := .fields vs, slots := sl } : Obj)) ∈ news := by
    obtain ⟨pre, post, rfl, _⟩ := (U default).split
    simp
  refine exc_setattr (X.keeps F.keep) (N _ mem).1 hs hob hcd href hdi ha fun h' d tk' k eq => ?_
  obtain ⟨F', N'⟩ := use_kp1 F N (U _) k eq
  exact h h' d tk' F' N'
theorem meta_Exception : typeOf (.type "Exception") = pure (.type "type") := by kernel_rfl
theorem lay_13_0 : True := by
  k_with "getMethod type:Exception" => (k_here; refine' method_type ?F₉ ?X₉ ?m₉ (by decide +kernel) ?e₉ ?h₉ ?_; (case F₉ => k_asm); (case X₉ => k_asm); (case m₉ => exact meta_Exception); (case e₉ => k_dflt k_is); (case h₉ => k_handed))
  k_with "call builtin:Exception.__init__" => (k_here; k_dflt (refine' exc_init_line ?F₉ ?N₉ ?X₉ ?a₉ ?b₉ ?U₉ ?_; (case F₉ => k_asm); (case N₉ => k_asm); (case X₉ => k_asm); (case U₉ => intro _; k_upd); (case a₉ => k_is); (case b₉ => kts_isx); k_whole); intro h'₉ t'₉ F'₉ N'₉; (try dsimp only at N'₉); (try k_sweep))
  k_with "setAttr ref" => (k_here; k_dflt (refine' exc_setattr_line ?F₉ ?N₉ ?X₉ ?U₉ ?a₉ ?b₉ ?c₉ ?d₉ ?e₉ ?f₉ ?_; (case F₉ => k_asm); (case N₉ => k_asm); (case X₉ => k_asm); (case U₉ => intro _; k_upd); (case a₉ => k_is); (case b₉ => k_is); (case c₉ => k_is); (case d₉ => exact exc_refuse _); (case e₉ => exact rfl); (case f₉ => k_is); k_whole); intro h'₉ d'₉ tk'₉ F'₉ N'₉; (try dsimp only at N'₉); (try k_sweep))
  trivial
theorem seg_init_raw {w : World} {p : Program} {loose : List Str} {mean : ExcName → Option Value} {mg mb : Str → Option Value}
    {dp un : Nat} {gd : Option (List Code)} {l : List Env} {base : Heap} {s : Shared} {Q E : Value → Shared → Prop} {e t : Addr} {x : Str} {tx : Tok}
    (B : Below (Ar dp un gd l) base l s.heap) (X : (Mine.pre.heap_1 w.params).In base) (T : Top p loose mean mg mb base)
    (he : s.heap.get? e = some { cls := .ref 44, data := .fields #[.ref t, .none, .none, .none, .bool false, .none] })
    (heb : base.get? e = none) (hel : e ∉ l.filterMap (·.frame)) (hd : dp + 5 < recursionLimit) (hu : un + 10 < cLine)
    (hret : ∀ (h' : Heap) (tk' : Nat) (d t' : Addr), Kp [e] s.heap h' → h'.get? e = some { cls := .ref 44, dict := some d, data := .fields #[.ref t', .none, .none, .none, .bool false, .none] } → Q .none { s with heap := h', toks := tk' }) :
    wpAny (model PySem.Challenge.rw_ok0139_01.row.prog w) (Ar dp un gd l) (call (.ref 28) [.ref e, .str x tx]) Q E s := by
  revert X
  k_fill
  intro X
  refine wpAny_call ?_
  k_dflt (refine' enter_raw (own := [(e, { cls := .ref 44, data := .fields #[.ref t, .none, .none, .none, .bool false, .none] })]) B X T ?hown ?k6 ?k7 ?k8 ?k9 ?kB ?_ ?c2 ?c3 ?c4 ?c5)
  case hown => intro q hq; cases List.mem_singleton.mp hq; exact ⟨he, heb, hel⟩
  case k6 => k_is
  case k7 => k_is
  case k8 => exact room0 hd
  case k9 => exact BindsTo.of_eq rfl
  case c5 => decide
  case kB => exact locs rfl
  case c2 => exact rfl
  case c3 => exact rfl
  case c4 => exact rfl
  intro g' L' h' hkp F' N' B' X' T' l1
  (try dsimp only); (try k_fold)
  k_steps
  all_goals (try dsimp only)
  exact hret _ _ _ _ (fun b o e nb => Fr.keep (by assumption) b o (hkp b o e nb)) (News.get (by assumption) (List.Mem.head _))
section
variable {prog : Program} {w : World} {A : Around} {R : Result → Shared → Prop} {h : Heap} {g : Array GenState} {d : Drawn} {t : Nat} {os : OsState} {K : Frag} {C : Addr}
structure SegFacts (K : Frag) (C : Addr) : Prop where
  exc : subIn K (.ref C) (.type "Exception") = some true
  base : subIn K (.ref C) (.type "BaseException") = some true
  noA : subIn K (.ref C) (.type "AttributeError") = some false
  noN : subIn K (.ref C) (.type "NameError") = some false
  self : subIn K (.ref C) (.ref C) = some true
  kt : ktsIn K C "BaseException" = true
theorem seg_check_new {Q : Unit → Shared → Prop} {E : Value → Shared → Prop} {nm q : Str} {N : Addr} {bs bm : List Value} {hdct : Bool} {sn : List Str} {sub : List Value} {ab : Bool} {col : Option Bool} {dd : Option Addr} {k0 k1 k2 k3 k5 : Option Value} {rest : List Value}
    (X : K.In h) (S : SegFacts K C) (hC : h.get? C = some (excClassObj nm q C N bs bm hdct sn sub ab col dd k0 k1 k2 k3 k5 "Exception.__new__"))
    (hq : Q () ⟨h, g, d, t, os⟩) : wpAny (model prog w) A (checkBuiltinCall "Exception.__new__" ⟨.ref C :: rest, []⟩) Q E ⟨h, g, d, t, os⟩ := by
  have F := PySem.F.excBase_Exception
  have hstar := F.noStar
  have hs := S.exc
  simp only [checkBuiltinCall, F.newKind, F.newSplit, F.newRow]
  repeat (first | refine wpAny_loadPart_at hC ?_ | (with_reducible refine Looks.at (looks_subIn X hs) ?_) | refine wpAny_staticBase_exc hC ?_ | refine wpAny_madeBy_exc hC ?_ | simp only [bne_self_eq_false, Bool.false_eq_true, if_false] | wp_step)
  exact hq
theorem seg_code_new {nm q : Str} {N : Addr} {bs bm : List Value} {hdct : Bool} {sn : List Str} {sub : List Value} {ab : Bool} {col : Option Bool} {dd : Option Addr} {k0 k1 k2 k3 k5 : Option Value} {rest : List Value}
    (X : K.In h) (S : SegFacts K C) (hC : h.get? C = some (excClassObj nm q C N bs bm hdct sn sub ab col dd k0 k1 k2 k3 k5 "Exception.__new__"))
    (hq : R (.ok (.ret (.ref (h.objs.size + 1)))) ⟨(h.push { cls := .type "tuple", data := .seq rest.toArray }).push
      { cls := .ref C, data := .fields #[.ref h.objs.size, .none, .none, .none, .bool false, .none] }, g, d, t, os⟩) (hrest : rest.length ≤ sizeLine) :
    codeAny (model prog w) A (.builtin "Exception.__new__" ⟨.ref C :: rest, []⟩) R ⟨h, g, d, t, os⟩ := by
  have F := PySem.F.excBase_Exception
  have hends := F.ends
  have h1 := S.exc
  have h2 := S.noA
  have h3 := S.noN
  refine codeAny_builtinAt F.entry ?_
  unfold Builtin.«BaseException.__new__»
  refine PySem.wpAt_bind ?_
  show PySem.wpAt _ _ _ (stack >>= _) _ _ _
  refine PySem.wpAt_bind (PySem.wpAt_stack fun p below => PySem.wpAt_of_wpAny ?_)
  wp_walk
  refine PySem.wpAt_of_wpAny ?_
  rw [F.owner]
  repeat (first | with_reducible refine wpAny_madeHere_exc F.canon hC ?_ | with_reducible refine wpAny_loadPart_at hC ?_ | (with_reducible refine Looks.at (looks_subIn X h1) ?_) | (with_reducible refine Looks.at (looks_subIn X h2) ?_) | (with_reducible refine Looks.at (looks_subIn X h3) ?_) | wp_step)
  show R _ _
  rw [Heap.size_push]
  exact hq
end
theorem under_make (dp un : Nat) (gd : Option (List Code)) (l : List Env) (rest : List Value) : (Ar dp un gd l).under (.builtin "type.__call__" ⟨.ref 44 :: rest, []⟩) = Ar (dp + 1) (un + 1) gd l := rfl
theorem seg_facts (w : World) : SegFacts (Mine.pre.heap_1 w.params) 44 := by
  have X : (Mine.pre.heap_1 w.params).In default → PySem.Challenge.rw_ok0139_01.row.prog = PySem.Challenge.rw_ok0139_01.row.prog → True := fun _ _ => trivial
  revert X
  k_fill
  intro _
  exact ⟨by k_is, by k_is, by k_is, by k_is, by k_is, by kts_isx⟩
theorem seg_more (w : World) : findIn (Mine.pre.heap_1 w.params) (.ref 44) "__init__" = some (some (.ref 28)) ∧ isFn (Mine.pre.heap_1 w.params) (.ref 28) = true := by
  have X : (Mine.pre.heap_1 w.params).In default → PySem.Challenge.rw_ok0139_01.row.prog = PySem.Challenge.rw_ok0139_01.row.prog → True := fun _ _ => trivial
  revert X
  k_fill
  intro _
  exact ⟨by k_is, by k_is⟩
theorem seg_class (w : World) {h : Heap} (X : (Mine.pre.heap_1 w.params).In h) : ∃ nm q N bs bm hdct sn sub ab col dd k0 k1 k2 k3 k5, h.get? 44 = some (excClassObj nm q 44 N bs bm hdct sn sub ab col dd k0 k1 k2 k3 k5 "Exception.__new__") :=
  ⟨_, _, _, _, _, _, _, _, _, _, _, _, _, _, _, _, X 44 _ rfl⟩
theorem seg_call {w : World} {p : Program} {loose : List Str} {mean : ExcName → Option Value} {mg mb : Str → Option Value}
    {dp un : Nat} {gd : Option (List Code)} {l : List Env} {base : Heap} {s : Shared} {Q E : Value → Shared → Prop} {x : Str} {tx : Tok}
    (B : Below (Ar dp un gd l) base l s.heap) (X : (Mine.pre.heap_1 w.params).In base) (T : Top p loose mean mg mb base)
    (hd : dp + 7 < recursionLimit) (hu : un + 12 < cLine)
    (hret : ∀ (e : Addr) (h' : Heap) (tk' : Nat) (d t' : Addr), Kp [] s.heap h' → s.heap.objs.size ≤ e → s.heap.get? e = none → h'.get? e = some { cls := .ref 44, dict := some d, data := .fields #[.ref t', .none, .none, .none, .bool false, .none] } → Q (.ref e) { s with heap := h', toks := tk' }) :
    wpAny (model PySem.Challenge.rw_ok0139_01.row.prog w) (Ar dp un gd l) (call (.ref 44) [.str x tx]) Q E s := by
  obtain ⟨hp, g, d, tk, os⟩ := s
  have S := seg_facts w
  have F := PySem.F.excBase_Exception
  have hB : base.StaysIn hp := B.stays
  have X1 : (Mine.pre.heap_1 w.params).In hp := X.keeps hB
  obtain ⟨nm, q, N, bs, bm, hdct, sn, sub, ab, col, dd, k0, k1, k2, k3, k5, hC⟩ := seg_class w X1
  have f1 := tc_lookup
  have f2 := tc_bind (.ref 44)
  have hT : (⟨hp, g, d, tk, os⟩ : Shared).TypeIs (.ref 44) "type" := ⟨_, hC, rfl⟩
  refine wpAny_call (codeAny_of_tree ?_)
  show wpAny _ _ (callAny (.ref 44) _) _ _ _
  repeat (any_goals (first | assumption | with_reducible refine wpAny_loadPart_at hC ?_ | wp_step))
  refine ⟨rfl, ?_⟩
  refine codeAny_call_builtin_at (Code.quiet_builtin _ (by decide +kernel)) entry_typeCall (wpAny_check_type_call_sub hC ?_)
  simp only [List.cons_append, List.nil_append]
  rw [under_make]
  repeat (first | with_reducible refine wpAny_loadPart_at hC ?_ | with_reducible refine wpAny_madeBy_exc hC ?_ | wp_step)
  refine codeAny_call_builtin_code (Code.quiet_builtin _ F.quiet) (seg_check_new X1 S hC ?_)
  refine seg_code_new X1 S hC ?_ (by size_fits)
  show wpAny _ _ _ _ _ _
  generalize hh2 : (hp.push { cls := .type "tuple", data := .seq [Value.str x tx].toArray }).push { cls := .ref 44, data := .fields #[.ref hp.objs.size, .none, .none, .none, .bool false, .none] } = h2
  have k2 : ∀ b o, hp.get? b = some o → h2.get? b = some o := fun b o e => hh2 ▸ Heap.get?_push_of_some _ (Heap.get?_push_of_some _ e)
  have hget : h2.get? (hp.objs.size + 1) = some { cls := .ref 44, data := .fields #[.ref hp.objs.size, .none, .none, .none, .bool false, .none] } := by rw [← hh2]; heap_get
  have X2 : (Mine.pre.heap_1 w.params).In h2 := X1.keeps k2
  have S2 := S.self
  unfold isInstance
  repeat (first | with_reducible refine wpAny_loadPart_at hget ?_ | (with_reducible refine Looks.at (looks_subIn X2 S2) ?_) | wp_step)
  show wpAny _ _ (typeLookup (.ref 44) _) _ _ _
  refine Looks.at (looks_findIn X2 (seg_more w).1) ?_
  refine wpAny_holding (wpAny_bind ?_)
  unfold bindSpecial
  refine wpAny_bind ((looks_typeIn X2 (beq_iff_eq.mp (seg_more w).2)).at ?_)
  rw [if_pos (by decide)]
  have hen : hp.get? (hp.objs.size + 1) = none := Heap.get?_none_of_le (Nat.le_succ _)
  have ebase : base.get? (hp.objs.size + 1) = none := by
    cases q : base.get? (hp.objs.size + 1) with
    | none => rfl
    | some o => rw [hB _ _ q] at hen; cases hen
  have efr : (hp.objs.size + 1) ∉ l.filterMap (·.frame) := fun hb => by
    obtain ⟨e', he, hf'⟩ := List.mem_filterMap.mp hb
    obtain ⟨L₁, o₁, h₁, h₂⟩ := funFrames_in B.frames e' he
    have : L₁ = hp.objs.size + 1 := Option.some.inj (h₁.symm.trans hf')
    rw [this] at h₂
    exact absurd (h₂.symm.trans hen) (by simp)
  have B2 : Below (Ar (dp + 1) (un + 1) gd l) base l h2 := ⟨rfl, fun b o e => k2 _ _ (hB _ _ e), B.frames.of_keeps fun b o e _ => ⟨o, k2 _ _ e, rfl⟩⟩
  refine wpAny_pure (wpAny_bind (wpAny_mono (seg_init_raw (s := ⟨h2, g, d, tk, os⟩) (Q := fun r s' => r = .none ∧ Q (.ref (hp.objs.size + 1)) s') B2 X T hget ebase efr (by omega) (by omega) fun h' tk' d' t' k e => ⟨rfl, ?_⟩) (fun r s' hr => ?_) fun _ _ x => x))
  · exact hret _ h' tk' d' t' (fun b o eb _ => k b o (k2 b o eb) fun z => by rw [List.mem_singleton.mp z] at eb; rw [hen] at eb; cases eb) (Nat.le_succ _) hen e
  · obtain ⟨rfl, hQ⟩ := hr
    wp_walk
    exact hQ
/-- a SegmentError in flight has left its frame: all that stood in G stands, the frames of l up to their slots, and the objects of own -/
def Raz (base G : Heap) (l : List Env) (own : List (Addr × Obj)) (e : Addr) (h : Heap) : Prop := RaisedSN base G l e (.ref 44) own h ∧ G.UpToSlots h
theorem leave_seg {M : Model} {A : Around} {E : Value → Shared → Prop} {s' : Shared} {base g : Heap} {outer : List Env} {L a e : Addr} {m : Str → Option Value} {name : Str} {scope : Scope} {cd : Value} {Q : Unit → Shared → Prop} {news : List (Addr × Obj)} {dd : Option Addr} {t : Addr} {sl : Array (Option Value)}
    (K : Below A base outer g) (F : Fr g L s'.heap m) (N : News g L s'.heap ((e, ({ cls := .ref 44, dict := dd, data := .fields #[.ref t, .none, .none, .none, .bool false, .none], slots := sl } : Obj)) :: news)) (l1 : ∀ q ∈ news, q.1 < e)
    (hQ : ∀ h', Raz base g outer news e h' → Q () { s' with heap := h' }) (hk : scope.kind = .function := by rfl) :
    wpAny M (A.deeper (envOf name scope L a cd)) (leaving (envOf name scope L a cd) (.ref e)) Q E s' := by
  have K' := K.push (name := name) (a := a) (cd := cd) F hk
  have mem : (e, ({ cls := .ref 44, dict := dd, data := .fields #[.ref t, .none, .none, .none, .bool false, .none], slots := sl } : Obj)) ∈ ((e, ({ cls := .ref 44, dict := dd, data := .fields #[.ref t, .none, .none, .none, .bool false, .none], slots := sl } : Obj)) :: news) := .head _
  have hne : e ∉ (envOf name scope L a cd :: outer).filterMap (·.frame) := not_frame K N rfl mem
  have hin : ∀ env ∈ (envOf name scope L a cd :: outer), ∀ b, env.frame = some b → b ∈ e :: (envOf name scope L a cd :: outer).filterMap (·.frame) := fun env he b hb => List.mem_cons_of_mem _ (List.mem_filterMap.mpr ⟨env, he, hb⟩)
  have sg : ∀ b o, g.get? b = some o → b ∉ outer.filterMap (·.frame) → (hideAll s'.heap (e :: (envOf name scope L a cd :: outer).filterMap (·.frame))).get? b = some o := fun b o q nm => hideAll_get _ (F.keep b o q) fun hm => by
    rcases List.mem_cons.mp hm with z | hm
    · rw [z, (N _ mem).2.2] at q; cases q
    · rcases kts_mem hm with z | z
      · rw [z, kts_self F] at q; cases q
      · exact nm z
  have st : base.StaysIn (hideAll s'.heap (e :: (envOf name scope L a cd :: outer).filterMap (·.frame))) := fun b o q => sg b o (K.stays b o q) fun hm => by
    rw [(K.frames.mem hm).1] at q; cases q
  have hl : ∀ q ∈ news, (hideAll s'.heap (e :: (envOf name scope L a cd :: outer).filterMap (·.frame))).get? q.1 = some q.2 ∧ g.get? q.1 = none ∧ base.get? q.1 = none := fun q hq => by
    refine ⟨hideAll_get _ (N q (.tail _ hq)).1 fun hm => ?_, (N q (.tail _ hq)).2.2, fresh_of_stays K.stays (N q (.tail _ hq)).2.2⟩
    rcases List.mem_cons.mp hm with z | hm
    · exact absurd z (Nat.ne_of_lt (l1 q hq))
    · exact not_frame (o := q.2) K N rfl (.tail _ hq) hm
  have hen : (hideAll s'.heap (e :: (envOf name scope L a cd :: outer).filterMap (·.frame))).get? e = none := hideAll_none _ (.head _)
  refine wpAny_leaving_firstW (a0 := .ref t) K'.stack (funFrames_hide K'.frames hin) rfl (N _ mem).1 (fun b o hb => of_hideAll _ hb) hen rfl rfl rfl fun h' hL => ?_
  obtain ⟨k1, ⟨_, _, k2⟩, k3, k4⟩ := hL
  exact hQ h' ⟨⟨_, _, st, sg, hl, k1, hen, k2, k3⟩, (Heap.UpToSlots.of_keeps F.keep).trans k4⟩
theorem leave_raz {M : Model} {A : Around} {E : Value → Shared → Prop} {s' : Shared} {base g g₂ : Heap} {outer : List Env} {L a e : Addr} {m : Str → Option Value} {name : Str} {scope : Scope} {cd : Value} {cl : List (Str × Addr)} {Q : Unit → Shared → Prop} {news : List (Addr × Obj)}
    (K : Below A base outer g) (F : Fr g L g₂ m) (N : News g L g₂ news) (R : Raz base g₂ (envX name scope L a cd cl :: outer) [] e s'.heap)
    (hQ : ∀ h', Raz base g outer news e h' → Q () { s' with heap := h' }) :
    wpAny M (A.deeper (envX name scope L a cd cl)) (leaving (envX name scope L a cd cl) (.ref e)) Q E s' := by
  obtain ⟨⟨B, a0, hB, hBG, _, hfl⟩, U⟩ := R
  refine wpAny_leaves_onW (Around.frames_deeper K.stack) rfl hfl fun h' x1 x2 => hQ h' ⟨⟨B, a0, hB, fun b o q nm => hBG b o (F.keep b o q) (fun hm => ?_), fun q hq => ⟨hBG _ _ (N q hq).1 (not_frame (o := q.2) K N rfl hq), (N q hq).2.2, none_base K (N q hq).2.2⟩, x1⟩, (Heap.UpToSlots.of_keeps F.keep).trans (U.trans x2)⟩
  obtain ⟨env, he, hf⟩ := List.mem_filterMap.mp hm
  rcases List.mem_cons.mp he with rfl | he
  · rw [← (Option.some.inj hf : L = b), kts_self F] at q; cases q
  · exact nm (List.mem_filterMap.mpr ⟨env, he, hf⟩)
/-- told of the whole heap ahead of the call -/
theorem Raz.raw {base h g h' : Heap} {l : List Env} {own own' : List (Addr × Obj)} {e : Addr} (hkp : ∀ b o, h.get? b = some o → b ∉ own.map (·.1) → g.get? b = some o) (hown : ∀ q ∈ own, h.get? q.1 = some q.2) (hsub : ∀ q ∈ own, q ∈ own')
    (R : Raz base g l own' e h') : Raz base h l [] e h' := by
  obtain ⟨⟨B, a0, hB, hG, hl, hfl⟩, U⟩ := R
  have key : ∀ b o, h.get? b = some o → b ∈ own.map (·.1) → B.get? b = some o := fun b o eb hb => by
    obtain ⟨q, hq, rfl⟩ := List.mem_map.mp hb
    rw [hown q hq] at eb; cases eb
    exact (hl q (hsub q hq)).1
  refine ⟨⟨B, a0, hB, fun b o eb nb => ?_, fun _ hq => (nomatch hq), hfl⟩, fun b o eb hn => ?_⟩
  · by_cases hb : b ∈ own.map (·.1)
    · exact key b o eb hb
    · exact hG b o (hkp b o eb hb) nb
  · by_cases hb : b ∈ own.map (·.1)
    · exact ⟨o.slots, hfl.1 _ _ (key b o eb hb)⟩
    · exact U b o (hkp b o eb hb) hn
def RaisableSeg (E : Value → Shared → Prop) (v : Value) (s₁ : Shared) : Prop :=
  ∃ a dd t sl, v = .ref a ∧ s₁.heap.get? a = some { cls := .ref 44, dict := dd, data := .fields #[.ref t, .none, .none, .none, .bool false, .none], slots := sl } ∧ (∃ K : Frag, K.In s₁.heap ∧ subIn K (.ref 44) (.type "BaseException") = some true ∧ typeIn K (.ref 44) = some (.type "type")) ∧ E (.ref a) s₁
theorem raise_seg {M : Model} {A : Around} {E : Value → Shared → Prop} {s : Shared} {env : Env} {e : Expr} {pos : Pos} {Q : Flow → Shared → Prop} (hh : A.handled = none)
    (h : wpAny M A (eval e env) (RaisableSeg E) E s) : wpAny M A (exec (.Raise (some e) none pos) env) Q E s := by
  show wpAny M A (do standAt pos; raiseStmt env (some (do let v ← eval e env; standAt pos; pure v)) none) Q E s
  refine wpAny_bind (wpAny_standAt ?_)
  unfold raiseStmt
  dsimp only
  refine wpAny_bind (wpAny_bind (wpAny_mono h (fun v s₁ h₁ => wpAny_bind (wpAny_standAt (wpAny_pure ?_))) fun _ _ x => x))
  obtain ⟨a, dd, t, sl, rfl, ha, ⟨K, X, hb, hty⟩, hE⟩ := h₁
  have hnt : ∀ {Q' : Bool → Shared → Prop}, Q' false s₁ → wpAny M A (isType (.ref a)) Q' E s₁ := by
    intro Q' hq
    simp only [isType, loadHead]
    refine wpAny_bind (wpAny_loadPart ha ?_)
    exact wpAny_pure hq
  have LT : Looks M s₁.heap (typeOf (.ref a)) (.ref 44) := (Looks.ld ha).andThen .now
  have LI : Looks M s₁.heap (isInstance (.ref a) (.type "BaseException")) true := LT.andThen (looks_subIn X hb)
  refine wpAny_bind (wpAny_pure ?_)
  dsimp only
  refine wpAny_bind (wpAny_holding ?_)
  unfold excFromValue isExcClass
  refine wpAny_bind (wpAny_bind (hnt ?_))
  simp only [Bool.false_eq_true, if_false]
  refine wpAny_pure ?_
  simp only [Bool.false_eq_true, if_false]
  refine wpAny_bind (LI.here ?_)
  simp only [if_true]
  refine wpAny_pure ?_
  refine wpAny_bind (hnt ?_)
  simp only [Bool.false_eq_true, if_false]
  unfold raisedInstance
  refine wpAny_bind (wpAny_bind (LT.here (wpAny_bind ((looks_typeIn X hty).here ?_))))
  rw [if_pos (by decide)]
  refine wpAny_pure ?_
  unfold setFlight raiseNew
  refine wpAny_bind (wpAny_bind (wpAny_field ha rfl (show (#[Value.ref t, Value.none, Value.none, Value.none, Value.bool false, Value.none] : Array Value)[1]? = some Value.none from rfl) ?_))
  rw [if_neg (by decide)]
  refine wpAny_pure (wpAny_bind (wpAny_handled ?_))
  rw [hh]
  first
    | exact wpAny_throw hE
    | exact wpAny_bind (wpAny_pure (wpAny_throw hE))
theorem seg_call_line {w : World} {p : Program} {loose : List Str} {mean : ExcName → Option Value} {mg mb : Str → Option Value}
    {dp un : Nat} {gd : Option (List Code)} {outer : List Env} {env : Env} {base h₀ : Heap} {L : Addr} {m : Str → Option Value} {news : List (Addr × Obj)} {s : Shared} {Q E : Value → Shared → Prop} {x : Str} {tx : Tok}
    (B : Below (Ar dp un gd outer) base outer h₀) (F : Fr h₀ L s.heap m) (N : News h₀ L s.heap news) (X : (Mine.pre.heap_1 w.params).In base) (T : Top p loose mean mg mb base) (hf : env.frame = some L) (hke : env.scope.kind = .function)
    (hd : dp + 8 < recursionLimit) (hu : un + 15 < cLine)
    (hret : ∀ (e : Addr) (h' : Heap) (tk' : Nat) (d t' : Addr), (∀ q ∈ news, q.1 < e) → Fr h₀ L h' m → News h₀ L h' ((e, { cls := .ref 44, dict := some d, data := .fields #[.ref t', .none, .none, .none, .bool false, .none] }) :: news) → Q (.ref e) { s with heap := h', toks := tk' }) :
    wpAny (model PySem.Challenge.rw_ok0139_01.row.prog w) ((Ar dp un gd outer).deeper env) (call (.ref 44) [.str x tx]) Q E s := by
  refine seg_call (dp := dp + 1) (un := un + 3) (l := env :: outer) (gd := gd) (below_here B F hf hke) X T (room2 hd rfl) (room2 hu rfl) fun e h' tk' d t' k hlt hen he => ?_
  have k' : ∀ b o, s.heap.get? b = some o → h'.get? b = some o := fun b o q => k b o q (fun z => nomatch z)
  refine hret e h' tk' d t' (fun q hq => Nat.lt_of_lt_of_le (Heap.lt_size (N q hq).1) hlt) (F.keeps k') fun q hq => ?_
  rcases List.mem_cons.mp hq with rfl | hq
  · refine ⟨he, fun z => ?_, ?_⟩
    · obtain ⟨oL, _, _, hL, _⟩ := F.ns
      rw [← z] at hL; exact absurd (hL.symm.trans hen) (by simp)
    · cases z : h₀.get? e with
      | none => rfl
      | some o => rw [F.keep _ _ z] at hen; cases hen
  · exact ⟨k' _ _ (N q hq).1, (N q hq).2⟩

theorem lay_17 : True := by
  k_with "call ref" => (k_here; (with_reducible show wpAny _ _ (call (Value.ref 44) _) _ _ _); k_dflt (refine' seg_call_line ?B₉ ?F₉ ?N₉ ?X₉ ?T₉ ?hf₉ ?hke₉ ?hd₉ ?hu₉ ?_; walk_at "zA"; walk_at "zD"); intro e'₉ h'₉ tk'₉ d'₉ t'₉ lx F'₉ N'₉; (try k_sweep))
  k_with "exec Raise some none" => (k_here; refine raise_seg rfl ?_)
  k_with "RaisableSeg" => (refine ⟨_, _, _, _, rfl, News.get (by k_asm) (List.Mem.head _), ⟨_, Frag.In.keeps (by k_asm) (Fr.keep (by k_asm)), by k_is, by k_is⟩, ?_⟩)
  k_with "leaving ref" => (k_here; k_dflt (first | (refine' leave_raz ?K₉ ?F₉ ?N₉ ?R₉ ?_; (case R₉ => assumption); (case K₉ => assumption); (case F₉ => assumption); (case N₉ => assumption); k_whole) | (refine' leave_seg ?K₉ ?F₉ ?N₉ ?l₉ ?_; (case K₉ => k_asm); (case F₉ => k_asm); (case N₉ => k_asm); (case l₉ => assumption); k_whole)); intro h'₉ R'₉; (try dsimp only at R'₉ ⊢))
  trivial

section
variable {prog : Program} {w : World} {A : Around} {E : Value → Shared → Prop} {s : Shared} {K : Frag} {L a : Addr} {h₀ : Heap} {m : Str → Option Value} {x : Str} {t : Tok} {es : Array DictEntry} {n : Nat} {v : Value}
theorem topNotIn_K {r : Option Value} {Q : Value → Shared → Prop} (F : Fr h₀ L s.heap m) (X₀ : K.In h₀) (hl : K.lookup a = some ⟨.type "dict", none, .dict es n, #[]⟩) (hk : KeysLit w.params es.toList) (e : nsIn K a x = some r) (lo : (a == sysModules) = false)
    (h : Q (.bool (!r.isSome)) { s with toks := s.toks + 1 }) : wpAny (model prog w) A (compareOp .NotIn (.str x t) (.ref a)) Q E s :=
  wpAny_notIn_of (strKind_is prog w x t) lo (mapOf_K (prog := prog) (X₀.keeps F.keep) hl hk) (by rw [find_K hl e]; exact h)
end
def KindOk (k : Str) : Prop := k = "jpeg" ∨ k = "palette" ∨ k = "rgb" ∨ k = "gif"
noncomputable abbrev thumbD (w : World) (t1 t2 t3 t4 t5 : Tok) (k : Str) (tk : Tok) (wd : Int) (tw : Tok) (ht : Int) (th : Tok) (P : Array UInt8) (tp : Tok) (O : Array UInt8) (to : Tok) : Obj :=
  dictOf [⟨PyData.keyHash w.params "kind", .str "kind" t1, .str k tk⟩, ⟨PyData.keyHash w.params "width", .str "width" t2, .int wd tw⟩, ⟨PyData.keyHash w.params "height", .str "height" t3, .int ht th⟩,
      ⟨PyData.keyHash w.params "palette", .str "palette" t4, .bytes P tp⟩, ⟨PyData.keyHash w.params "octets", .str "octets" t5, .bytes O to⟩] 5
/-- a small picture that is right -/
def SmallOk (k : Str) (wd ht : Int) (P O : Array UInt8) : Prop :=
  k ≠ "gif" ∧ 0 ≤ wd ∧ wd ≤ 255 ∧ 0 ≤ ht ∧ ht ≤ 255 ∧ (k = "palette" → (O.size : Int) = wd * ht) ∧ (k = "rgb" → (O.size : Int) = 3 * (wd * ht)) ∧ (k = "palette" → (P.size : Int) = 768) ∧ (k ≠ "palette" → (P.size : Int) = 0)
section
variable {prog : Program} {w : World} {A : Around} {E : Value → Shared → Prop} {s : Shared} {K : Frag} {L a : Addr} {h₀ : Heap} {m : Str → Option Value} {x : Str} {t : Tok} {es : Array DictEntry} {n : Nat} {v : Value}
theorem codesNotIn {v1 v2 v3 : Value} {Q : Value → Shared → Prop} (hk : KindOk x) (F : Fr h₀ L s.heap m) (X₀ : K.In h₀) (hl : K.lookup a = some ⟨.type "dict", none, .dict es n, #[]⟩) (hkl : KeysLit w.params es.toList)
    (e1 : nsIn K a "jpeg" = some (some v1)) (e2 : nsIn K a "palette" = some (some v2)) (e3 : nsIn K a "rgb" = some (some v3)) (e4 : nsIn K a "gif" = some none) (lo : (a == sysModules) = false)
    (h : Q (.bool (decide (x = "gif"))) { s with toks := s.toks + 1 }) : wpAny (model prog w) A (compareOp .NotIn (.str x t) (.ref a)) Q E s := by
  rcases hk with rfl | rfl | rfl | rfl
  · exact topNotIn_K F X₀ hl hkl e1 lo h
  · exact topNotIn_K F X₀ hl hkl e2 lo h
  · exact topNotIn_K F X₀ hl hkl e3 lo h
  · exact topNotIn_K F X₀ hl hkl e4 lo h
end
theorem kinds_ne : (("jpeg" : Str) ≠ "palette" ∧ ("jpeg" : Str) ≠ "rgb" ∧ ("jpeg" : Str) ≠ "gif") ∧ (("palette" : Str) ≠ "rgb" ∧ ("palette" : Str) ≠ "gif") ∧ ("rgb" : Str) ≠ "gif" := by decide
theorem SmallOk.ng {k : Str} {wd ht : Int} {P O : Array UInt8} (h : SmallOk k wd ht P O) : k ≠ "gif" := h.1
theorem SmallOk.w0 {k : Str} {wd ht : Int} {P O : Array UInt8} (h : SmallOk k wd ht P O) : 0 ≤ wd := h.2.1
theorem SmallOk.w1 {k : Str} {wd ht : Int} {P O : Array UInt8} (h : SmallOk k wd ht P O) : wd ≤ 255 := h.2.2.1
theorem SmallOk.h0 {k : Str} {wd ht : Int} {P O : Array UInt8} (h : SmallOk k wd ht P O) : 0 ≤ ht := h.2.2.2.1
theorem SmallOk.h1 {k : Str} {wd ht : Int} {P O : Array UInt8} (h : SmallOk k wd ht P O) : ht ≤ 255 := h.2.2.2.2.1
section
variable {prog : Program} {w : World} {A : Around} {E : Value → Shared → Prop} {s : Shared} {K : Frag} {L a : Addr} {h₀ : Heap} {m : Str → Option Value} {x : Str} {t : Tok} {es : Array DictEntry} {n : Nat} {v : Value}
theorem codesAt {c1 c2 c3 : Int} {t1 t2 t3 : Tok} {value slice : Expr} {Q : Value → Shared → Prop} (hk : KindOk x) (hg : x ≠ "gif") (F : Fr h₀ L s.heap m) (X₀ : K.In h₀) (hl : K.lookup a = some ⟨.type "dict", none, .dict es n, #[]⟩) (hkl : KeysLit w.params es.toList)
    (e1 : nsIn K a "jpeg" = some (some (.int c1 t1))) (e2 : nsIn K a "palette" = some (some (.int c2 t2))) (e3 : nsIn K a "rgb" = some (some (.int c3 t3))) (b1 : 0 ≤ c1 ∧ c1 ≤ 255) (b2 : 0 ≤ c2 ∧ c2 ≤ 255) (b3 : 0 ≤ c3 ∧ c3 ≤ 255)
    (h : ∀ c u, 0 ≤ c → c ≤ 255 → Q (.int c u) { s with toks := s.toks + 1 })
    (hs : ∀ y, subscripted slice false (.ref a) (.str y t) = operate [.ref a, .str y t] (getItem (.ref a) (.str y t)) := by intro _; with_unfolding_all rfl) : wpAny (model prog w) A (subscriptTail value slice (.ref a) (.str x t)) Q E s := by
  rcases hk with rfl | rfl | rfl | rfl
  · exact topItem_K F X₀ hl hkl e1 (h _ _ b1.1 b1.2) (hs _)
  · exact topItem_K F X₀ hl hkl e2 (h _ _ b2.1 b2.2) (hs _)
  · exact topItem_K F X₀ hl hkl e3 (h _ _ b3.1 b3.2) (hs _)
  · exact absurd rfl hg
end
/-- raise SegmentError("..") in one step: the frame is left, the error is told of the ground -/
theorem raise_line {w : World} {p : Program} {loose : List Str} {mean : ExcName → Option Value} {mg mb : Str → Option Value}
    {dp un : Nat} {gd : Option (List Code)} {outer : List Env} {base h₀ : Heap} {L a : Addr} {m : Str → Option Value} {news : List (Addr × Obj)} {s : Shared} {name : Str} {scope : Scope} {cd : Value}
    {Q : Flow → Shared → Prop} {Q1 : Value → Unit → Shared → Prop} {E1 : Value → Value → Shared → Prop} {p0 p1 p2 p3 : Pos} {txt : Str} {kk : Nat}
    (B : Below (Ar dp un gd outer) base outer h₀) (F : Fr h₀ L s.heap m) (N : News h₀ L s.heap news) (X : (Mine.pre.heap_1 w.params).In base) (X0 : (Mine.pre.heap_1 w.params).In h₀) (T : Top p loose mean mg mb base) (T0 : Top p loose mean mg mb h₀)
    (hd : dp + 8 < recursionLimit) (hu : un + 15 < cLine)
    (hE : ∀ (e : Addr) (h' : Heap) (tk' : Nat), Raz base h₀ outer news e h' → Q1 (.ref e) () { s with heap := h', toks := tk' })
    (hk : scope.kind = .function := by rfl) (hx : (envOf name scope L a cd).kindOf "SegmentError" = some .globalImplicit := by rfl) :
    wpAny (model PySem.Challenge.rw_ok0139_01.row.prog w) ((Ar dp un gd outer).deeper (envOf name scope L a cd)) (exec (.Raise (some (.Call (.Name "SegmentError" p1) [.Constant (.str txt) kk p2] [] p0)) none p3) (envOf name scope L a cd)) Q
      (fun e s' => wpAny (model PySem.Challenge.rw_ok0139_01.row.prog w) ((Ar dp un gd outer).deeper (envOf name scope L a cd)) (leaving (envOf name scope L a cd) e) (Q1 e) (E1 e) s') s := by
  revert X X0
  k_fill
  intro X X0
  refine raise_seg rfl (Call_ ?_)
  refine nameX_K F X0 (topRead_of T0) (x := "SegmentError") (v := .ref 44) (by k_is) ?_ hk hx
  refine callWith_K X0 (by k_is) (args_cons ?_)
  refine Constant_str ?_
  refine args_nil ⟨X0.keeps F.keep, ?_⟩
  refine seg_call_line B F N X T rfl hk hd hu fun e h' tk' d t' l1 F' N' => ?_
  refine ⟨_, _, _, _, rfl, News.get N' (List.Mem.head _), ⟨_, X0.keeps F'.keep, by k_is, by k_is⟩, ?_⟩
  exact leave_seg B F' N' l1 (fun h'' R => hE e h'' tk' R) hk
section
variable {M : Model} {A : Around} {E : Value → Shared → Prop} {s : Shared} {K : Frag} {h₀ : Heap} {L a : Addr} {m mg mb : Str → Option Value} {cn : Str} {cs : Scope} {ccd : Value} {cl : List (Str × Addr)} {p : Program} {loose : List Str} {mean : ExcName → Option Value}
  {f x y : Str} {p0 p1 p2 p3 : Pos} {u v : Value} {g : Addr} {Q : Value → Shared → Prop} {ex ey : PySem.Expr} {i : Int} {kk : Nat}
/-- f(x), f a top's def, x a local: one step -/
theorem callG1N (F : Fr h₀ L s.heap m) (X : K.In h₀) (T : TopRead p loose mg mb h₀) (e : nsIn K mainGlobals f = some (some (.ref g))) (hk : keepIn K (.ref g) = true) (hv : m x = some v)
    (h : wpAny M A (call (.ref g) [v]) Q E s)
    (hc : cs.kind = .function) (hf : (envX cn cs L a ccd cl).kindOf f = some .globalImplicit) (hx : (envX cn cs L a ccd cl).kindOf x = some .local) (hd : (f == ("__debug__" : Str)) = false := by decide) (hd2 : (x == ("__debug__" : Str)) = false := by decide) :
    wpAny M A (eval (.Call (.Name f p1) [.Name x p2] [] p0) (envX cn cs L a ccd cl)) Q E s :=
  Call_ (nameX_K F X T e (callWith_K X hk (args_cons (nameX_L F hv (args_nil ⟨X.keeps F.keep, h⟩) hc hx hd2))) hc hf hd)
theorem callG2NN (F : Fr h₀ L s.heap m) (X : K.In h₀) (T : TopRead p loose mg mb h₀) (e : nsIn K mainGlobals f = some (some (.ref g))) (hk : keepIn K (.ref g) = true) (hv : m x = some v) (hu : m y = some u)
    (h : wpAny M A (call (.ref g) [v, u]) Q E s)
    (hc : cs.kind = .function) (hf : (envX cn cs L a ccd cl).kindOf f = some .globalImplicit) (hx : (envX cn cs L a ccd cl).kindOf x = some .local) (hy : (envX cn cs L a ccd cl).kindOf y = some .local) (hd : (f == ("__debug__" : Str)) = false := by decide) (hd2 : (x == ("__debug__" : Str)) = false := by decide) (hd3 : (y == ("__debug__" : Str)) = false := by decide) :
    wpAny M A (eval (.Call (.Name f p1) [.Name x p2, .Name y p3] [] p0) (envX cn cs L a ccd cl)) Q E s :=
  Call_ (nameX_K F X T e (callWith_K X hk (args_cons (nameX_L F hv (args_cons (nameX_L F hu (args_nil ⟨X.keeps F.keep, h⟩) hc hy hd3)) hc hx hd2))) hc hf hd)
theorem callG2NC (F : Fr h₀ L s.heap m) (X : K.In h₀) (T : TopRead p loose mg mb h₀) (e : nsIn K mainGlobals f = some (some (.ref g))) (hk : keepIn K (.ref g) = true) (hv : m x = some v)
    (h : wpAny M A (call (.ref g) [v, .int i s.toks]) Q E { s with toks := s.toks + 1 })
    (hc : cs.kind = .function) (hf : (envX cn cs L a ccd cl).kindOf f = some .globalImplicit) (hx : (envX cn cs L a ccd cl).kindOf x = some .local) (hd : (f == ("__debug__" : Str)) = false := by decide) (hd2 : (x == ("__debug__" : Str)) = false := by decide) :
    wpAny M A (eval (.Call (.Name f p1) [.Name x p2, .Constant (.int i) kk p3] [] p0) (envX cn cs L a ccd cl)) Q E s :=
  Call_ (nameX_K F X T e (callWith_K X hk (args_cons (nameX_L F hv (args_cons (wpAny_Constant_int (args_nil ⟨X.keeps F.keep, h⟩))) hc hx hd2))) hc hf hd)
theorem callG1 (F : Fr h₀ L s.heap m) (X : K.In h₀) (T : TopRead p loose mg mb h₀) (e : nsIn K mainGlobals f = some (some (.ref g))) (hk : keepIn K (.ref g) = true)
    (h : wpAny M A (eval ex (envX cn cs L a ccd cl)) (fun v s₁ => K.In s₁.heap ∧ wpAny M A (call (.ref g) [v]) Q E s₁) E s)
    (hc : cs.kind = .function) (hf : (envX cn cs L a ccd cl).kindOf f = some .globalImplicit) (he : starEach [ex] (envX cn cs L a ccd cl) = [(false, eval ex (envX cn cs L a ccd cl))]) (hd : (f == ("__debug__" : Str)) = false := by decide) :
    wpAny M A (eval (.Call (.Name f p1) [ex] [] p0) (envX cn cs L a ccd cl)) Q E s :=
  Call_ (nameX_K F X T e (callWith_K X hk (args_cons (wpAny_mono h (fun _ _ q => args_nil q) fun _ _ q => q) he) he) hc hf hd)
theorem callG2 (F : Fr h₀ L s.heap m) (X : K.In h₀) (T : TopRead p loose mg mb h₀) (e : nsIn K mainGlobals f = some (some (.ref g))) (hk : keepIn K (.ref g) = true)
    (h : wpAny M A (eval ex (envX cn cs L a ccd cl)) (fun v s₁ => wpAny M A (eval ey (envX cn cs L a ccd cl)) (fun u s₂ => K.In s₂.heap ∧ wpAny M A (call (.ref g) [v, u]) Q E s₂) E s₁) E s)
    (hc : cs.kind = .function) (hf : (envX cn cs L a ccd cl).kindOf f = some .globalImplicit) (he : starEach [ex, ey] (envX cn cs L a ccd cl) = (false, eval ex (envX cn cs L a ccd cl)) :: starEach [ey] (envX cn cs L a ccd cl)) (he2 : starEach [ey] (envX cn cs L a ccd cl) = [(false, eval ey (envX cn cs L a ccd cl))]) (hp : (backTo p0 (starEach [ey] (envX cn cs L a ccd cl))).any (·.1) = false) (hd : (f == ("__debug__" : Str)) = false := by decide) :
    wpAny M A (eval (.Call (.Name f p1) [ex, ey] [] p0) (envX cn cs L a ccd cl)) Q E s :=
  Call_ (nameX_K F X T e (callWith_K X hk (args_cons (wpAny_mono h (fun _ _ q => args_cons (wpAny_mono q (fun _ _ q => args_nil q) fun _ _ q => q) he2) fun _ _ q => q) he) he hp) hc hf hd)
theorem callB1N {id : String} (F : Fr h₀ L s.heap m) (X : K.In h₀) (T : TopRead p loose mg mb h₀) (e : nsIn K mainGlobals f = some none) (hb : bootBuiltins f = some (.builtin id)) (hn : f ≠ "__name__") (hv : m x = some v)
    (h : wpAny M A (call (.builtin id) [v]) Q E s)
    (hc : cs.kind = .function) (hf : (envX cn cs L a ccd cl).kindOf f = some .globalImplicit) (hx : (envX cn cs L a ccd cl).kindOf x = some .local) (hd : (f == ("__debug__" : Str)) = false := by decide) (hd2 : (x == ("__debug__" : Str)) = false := by decide) :
    wpAny M A (eval (.Call (.Name f p1) [.Name x p2] [] p0) (envX cn cs L a ccd cl)) Q E s :=
  Call_ (nameX_B F X T e hb hn (PyProof.Rows.callWith_builtin1 (args_cons (nameX_L F hv (args_nil h) hc hx hd2))) hc hf hd)
theorem callB1 {id : String} (F : Fr h₀ L s.heap m) (X : K.In h₀) (T : TopRead p loose mg mb h₀) (e : nsIn K mainGlobals f = some none) (hb : bootBuiltins f = some (.builtin id)) (hn : f ≠ "__name__")
    (h : wpAny M A (eval ex (envX cn cs L a ccd cl)) (fun v s₁ => wpAny M A (call (.builtin id) [v]) Q E s₁) E s)
    (hc : cs.kind = .function) (hf : (envX cn cs L a ccd cl).kindOf f = some .globalImplicit) (he : starEach [ex] (envX cn cs L a ccd cl) = [(false, eval ex (envX cn cs L a ccd cl))]) (hd : (f == ("__debug__" : Str)) = false := by decide) :
    wpAny M A (eval (.Call (.Name f p1) [ex] [] p0) (envX cn cs L a ccd cl)) Q E s :=
  Call_ (nameX_B F X T e hb hn (PyProof.Rows.callWith_builtin1 (args_cons (wpAny_mono h (fun _ _ q => args_nil q) fun _ _ q => q) he) he) hc hf hd)
theorem callT1N {id : String} (F : Fr h₀ L s.heap m) (X : K.In h₀) (T : TopRead p loose mg mb h₀) (e : nsIn K mainGlobals f = some none) (hb : bootBuiltins f = some (.type id)) (hn : f ≠ "__name__") (hv : m x = some v)
    (h : wpAny M A (call (.type id) [v]) Q E s)
    (hc : cs.kind = .function) (hf : (envX cn cs L a ccd cl).kindOf f = some .globalImplicit) (hx : (envX cn cs L a ccd cl).kindOf x = some .local) (hd : (f == ("__debug__" : Str)) = false := by decide) (hd2 : (x == ("__debug__" : Str)) = false := by decide) :
    wpAny M A (eval (.Call (.Name f p1) [.Name x p2] [] p0) (envX cn cs L a ccd cl)) Q E s :=
  Call_ (nameX_B F X T e hb hn (PyProof.Rows.callWith_type1 (args_cons (nameX_L F hv (args_nil h) hc hx hd2))) hc hf hd)
theorem callT1 {id : String} (F : Fr h₀ L s.heap m) (X : K.In h₀) (T : TopRead p loose mg mb h₀) (e : nsIn K mainGlobals f = some none) (hb : bootBuiltins f = some (.type id)) (hn : f ≠ "__name__")
    (h : wpAny M A (eval ex (envX cn cs L a ccd cl)) (fun v s₁ => wpAny M A (call (.type id) [v]) Q E s₁) E s)
    (hc : cs.kind = .function) (hf : (envX cn cs L a ccd cl).kindOf f = some .globalImplicit) (he : starEach [ex] (envX cn cs L a ccd cl) = [(false, eval ex (envX cn cs L a ccd cl))]) (hd : (f == ("__debug__" : Str)) = false := by decide) :
    wpAny M A (eval (.Call (.Name f p1) [ex] [] p0) (envX cn cs L a ccd cl)) Q E s :=
  Call_ (nameX_B F X T e hb hn (PyProof.Rows.callWith_type1 (args_cons (wpAny_mono h (fun _ _ q => args_nil q) fun _ _ q => q) he) he) hc hf hd)
end
section
variable {w : World} {A : Around} {E : Value → Shared → Prop} {s : Shared} {h₀ : Heap} {L a x dx : Addr} {m : Str → Option Value} {cn : Str} {cs : Scope} {ccd : Value} {cl : List (Str × Addr)} {news : List (Addr × Obj)}
  {y : Str} {p1 p2 : Pos} {k : Str} {wd ht : Int} {P O : Array UInt8} {u0 u1 u2 u3 u4 : Tok} {t1 t2 t3 t4 t5 : Tok} {Q : Value → Shared → Prop} {ex : Bool}
theorem get_kind (F : Fr h₀ L s.heap m) (X : (Mine.pre.heap_1 w.params).In h₀) (N : News h₀ L s.heap news) (mx : (x, instObj 91 dx) ∈ news) (md : (dx, thumbD w t1 t2 t3 t4 t5 k u0 wd u1 ht u2 P u3 O u4) ∈ news) (h : Q (.str k u0) { s with toks := s.toks + 1 }) :
    wpAny (model PySem.Challenge.rw_ok0139_01.row.prog w) A (getAttr (.ref x) "kind" ex) Q E s := by
  revert X
  k_fill
  intro X
  k_dflt (refine' get_own ?k1 ?k2 ?k3 ?k4 ?k5 ?k6 ?k7 ?k8 ?k9 ?_; (case k1 => exact F); (case k2 => exact X); (case k3 => exact InstAt.of_news N mx md); (case k4 => k_is); (case k5 => k_is); (case k6 => k_is); (case k7 => k_is); (case k8 => k_get); (case k9 => k_handed))
  exact h
theorem attrN_kind (F : Fr h₀ L s.heap m) (X : (Mine.pre.heap_1 w.params).In h₀) (N : News h₀ L s.heap news) (hv : m y = some (.ref x)) (mx : (x, instObj 91 dx) ∈ news) (md : (dx, thumbD w t1 t2 t3 t4 t5 k u0 wd u1 ht u2 P u3 O u4) ∈ news) (h : Q (.str k u0) { s with toks := s.toks + 1 })
    (hc : cs.kind = .function) (hx : (envX cn cs L a ccd cl).kindOf y = some .local) (hd : (y == ("__debug__" : Str)) = false := by decide) :
    wpAny (model PySem.Challenge.rw_ok0139_01.row.prog w) A (eval (.Attribute (.Name y p1) "kind" p2) (envX cn cs L a ccd cl)) Q E s :=
  Attribute_Name_ (nameX_L F hv (get_kind F X N mx md h) hc hx hd)
theorem get_width (F : Fr h₀ L s.heap m) (X : (Mine.pre.heap_1 w.params).In h₀) (N : News h₀ L s.heap news) (mx : (x, instObj 91 dx) ∈ news) (md : (dx, thumbD w t1 t2 t3 t4 t5 k u0 wd u1 ht u2 P u3 O u4) ∈ news) (h : Q (.int wd u1) { s with toks := s.toks + 1 }) :
    wpAny (model PySem.Challenge.rw_ok0139_01.row.prog w) A (getAttr (.ref x) "width" ex) Q E s := by
  revert X
  k_fill
  intro X
  k_dflt (refine' get_own ?k1 ?k2 ?k3 ?k4 ?k5 ?k6 ?k7 ?k8 ?k9 ?_; (case k1 => exact F); (case k2 => exact X); (case k3 => exact InstAt.of_news N mx md); (case k4 => k_is); (case k5 => k_is); (case k6 => k_is); (case k7 => k_is); (case k8 => k_get); (case k9 => k_handed))
  exact h
theorem attrN_width (F : Fr h₀ L s.heap m) (X : (Mine.pre.heap_1 w.params).In h₀) (N : News h₀ L s.heap news) (hv : m y = some (.ref x)) (mx : (x, instObj 91 dx) ∈ news) (md : (dx, thumbD w t1 t2 t3 t4 t5 k u0 wd u1 ht u2 P u3 O u4) ∈ news) (h : Q (.int wd u1) { s with toks := s.toks + 1 })
    (hc : cs.kind = .function) (hx : (envX cn cs L a ccd cl).kindOf y = some .local) (hd : (y == ("__debug__" : Str)) = false := by decide) :
    wpAny (model PySem.Challenge.rw_ok0139_01.row.prog w) A (eval (.Attribute (.Name y p1) "width" p2) (envX cn cs L a ccd cl)) Q E s :=
  Attribute_Name_ (nameX_L F hv (get_width F X N mx md h) hc hx hd)
theorem get_height (F : Fr h₀ L s.heap m) (X : (Mine.pre.heap_1 w.params).In h₀) (N : News h₀ L s.heap news) (mx : (x, instObj 91 dx) ∈ news) (md : (dx, thumbD w t1 t2 t3 t4 t5 k u0 wd u1 ht u2 P u3 O u4) ∈ news) (h : Q (.int ht u2) { s with toks := s.toks + 1 }) :
    wpAny (model PySem.Challenge.rw_ok0139_01.row.prog w) A (getAttr (.ref x) "height" ex) Q E s := by
  revert X
  k_fill
  intro X
  k_dflt (refine' get_own ?k1 ?k2 ?k3 ?k4 ?k5 ?k6 ?k7 ?k8 ?k9 ?_; (case k1 => exact F); (case k2 => exact X); (case k3 => exact InstAt.of_news N mx md); (case k4 => k_is); (case k5 => k_is); (case k6 => k_is); (case k7 => k_is); (case k8 => k_get); (case k9 => k_handed))
  exact h
theorem attrN_height (F : Fr h₀ L s.heap m) (X : (Mine.pre.heap_1 w.params).In h₀) (N : News h₀ L s.heap news) (hv : m y = some (.ref x)) (mx : (x, instObj 91 dx) ∈ news) (md : (dx, thumbD w t1 t2 t3 t4 t5 k u0 wd u1 ht u2 P u3 O u4) ∈ news) (h : Q (.int ht u2) { s with toks := s.toks + 1 })
    (hc : cs.kind = .function) (hx : (envX cn cs L a ccd cl).kindOf y = some .local) (hd : (y == ("__debug__" : Str)) = false := by decide) :
    wpAny (model PySem.Challenge.rw_ok0139_01.row.prog w) A (eval (.Attribute (.Name y p1) "height" p2) (envX cn cs L a ccd cl)) Q E s :=
  Attribute_Name_ (nameX_L F hv (get_height F X N mx md h) hc hx hd)
theorem get_palette (F : Fr h₀ L s.heap m) (X : (Mine.pre.heap_1 w.params).In h₀) (N : News h₀ L s.heap news) (mx : (x, instObj 91 dx) ∈ news) (md : (dx, thumbD w t1 t2 t3 t4 t5 k u0 wd u1 ht u2 P u3 O u4) ∈ news) (h : Q (.bytes P u3) { s with toks := s.toks + 1 }) :
    wpAny (model PySem.Challenge.rw_ok0139_01.row.prog w) A (getAttr (.ref x) "palette" ex) Q E s := by
  revert X
  k_fill
  intro X
  k_dflt (refine' get_own ?k1 ?k2 ?k3 ?k4 ?k5 ?k6 ?k7 ?k8 ?k9 ?_; (case k1 => exact F); (case k2 => exact X); (case k3 => exact InstAt.of_news N mx md); (case k4 => k_is); (case k5 => k_is); (case k6 => k_is); (case k7 => k_is); (case k8 => k_get); (case k9 => k_handed))
  exact h
theorem attrN_palette (F : Fr h₀ L s.heap m) (X : (Mine.pre.heap_1 w.params).In h₀) (N : News h₀ L s.heap news) (hv : m y = some (.ref x)) (mx : (x, instObj 91 dx) ∈ news) (md : (dx, thumbD w t1 t2 t3 t4 t5 k u0 wd u1 ht u2 P u3 O u4) ∈ news) (h : Q (.bytes P u3) { s with toks := s.toks + 1 })
    (hc : cs.kind = .function) (hx : (envX cn cs L a ccd cl).kindOf y = some .local) (hd : (y == ("__debug__" : Str)) = false := by decide) :
    wpAny (model PySem.Challenge.rw_ok0139_01.row.prog w) A (eval (.Attribute (.Name y p1) "palette" p2) (envX cn cs L a ccd cl)) Q E s :=
  Attribute_Name_ (nameX_L F hv (get_palette F X N mx md h) hc hx hd)
theorem get_octets (F : Fr h₀ L s.heap m) (X : (Mine.pre.heap_1 w.params).In h₀) (N : News h₀ L s.heap news) (mx : (x, instObj 91 dx) ∈ news) (md : (dx, thumbD w t1 t2 t3 t4 t5 k u0 wd u1 ht u2 P u3 O u4) ∈ news) (h : Q (.bytes O u4) { s with toks := s.toks + 1 }) :
    wpAny (model PySem.Challenge.rw_ok0139_01.row.prog w) A (getAttr (.ref x) "octets" ex) Q E s := by
  revert X
  k_fill
  intro X
  k_dflt (refine' get_own ?k1 ?k2 ?k3 ?k4 ?k5 ?k6 ?k7 ?k8 ?k9 ?_; (case k1 => exact F); (case k2 => exact X); (case k3 => exact InstAt.of_news N mx md); (case k4 => k_is); (case k5 => k_is); (case k6 => k_is); (case k7 => k_is); (case k8 => k_get); (case k9 => k_handed))
  exact h
theorem attrN_octets (F : Fr h₀ L s.heap m) (X : (Mine.pre.heap_1 w.params).In h₀) (N : News h₀ L s.heap news) (hv : m y = some (.ref x)) (mx : (x, instObj 91 dx) ∈ news) (md : (dx, thumbD w t1 t2 t3 t4 t5 k u0 wd u1 ht u2 P u3 O u4) ∈ news) (h : Q (.bytes O u4) { s with toks := s.toks + 1 })
    (hc : cs.kind = .function) (hx : (envX cn cs L a ccd cl).kindOf y = some .local) (hd : (y == ("__debug__" : Str)) = false := by decide) :
    wpAny (model PySem.Challenge.rw_ok0139_01.row.prog w) A (eval (.Attribute (.Name y p1) "octets" p2) (envX cn cs L a ccd cl)) Q E s :=
  Attribute_Name_ (nameX_L F hv (get_octets F X N mx md h) hc hx hd)
end

theorem lay_19 : True := by
  k_with "compareOp NotIn str ref" => (k_here; k_dflt (refine' topNotIn_K ?F₉ ?X₉ ?l₉ ?k₉ ?e₉ ?o₉ ?_; (case F₉ => k_asm); (case X₉ => k_asm); (case l₉ => k_is); (case k₉ => k_keys); (case e₉ => k_is); (case o₉ => decide)))
  k_with "compareOp NotIn str ref" => (k_here; k_dflt (refine' codesNotIn (by assumption) ?F₉ ?X₉ ?l₉ ?k₉ ?e1₉ ?e2₉ ?e3₉ ?e4₉ ?o₉ ?_; (case F₉ => k_asm); (case X₉ => k_asm); (case l₉ => k_is); (case k₉ => k_keys); (case e1₉ => k_is); (case e2₉ => k_is); (case e3₉ => k_is); (case e4₉ => k_is); (case o₉ => decide)))
  k_with "binaryOp Add bytes bytes" => (k_here; (with_reducible show wpAny _ _ (binaryOp Operator.Add (Value.bytes _ _) (Value.bytes _ _)) _ _ _); (refine KBy.add_bytes (by (simp only [Array.size_append, List.size_toArray, List.length_cons, List.length_nil]; omega)) ?_); intro _ _)
  k_with "eval Call" => (k_here; (with_reducible show wpAny _ _ (eval (Expr.Call (Expr.Name _ _) [_, _] [] _) _) _ _ _); k_dflt (refine' callG2 ?F₉ ?X₉ ?T₉ ?e₉ ?k₉ ?_ ?a₉ ?b₉ ?c₉ ?d₉ ?g₉; (case F₉ => k_asm); (case X₉ => k_asm); (case T₉ => k_asm); (case e₉ => k_is); (case k₉ => k_is); (case a₉ => rfl); (case b₉ => rfl); (case c₉ => rfl); (case d₉ => rfl); (case g₉ => rfl); k_whole))
  k_with "eval Call" => (k_here; (with_reducible show wpAny _ _ (eval (Expr.Call (Expr.Name _ _) [_] [] _) _) _ _ _); k_dflt (refine' callG1 ?F₉ ?X₉ ?T₉ ?e₉ ?k₉ ?_ ?a₉ ?b₉ ?c₉; (case F₉ => k_asm); (case X₉ => k_asm); (case T₉ => k_asm); (case e₉ => k_is); (case k₉ => k_is); (case a₉ => rfl); (case b₉ => rfl); (case c₉ => rfl); k_whole))
  k_with "eval Call" => (k_here; (with_reducible show wpAny _ _ (eval (Expr.Call (Expr.Name _ _) [Expr.Name _ _, Expr.Constant (Const.int _) _ _] [] _) _) _ _ _); k_dflt (refine' callG2NC ?F₉ ?X₉ ?T₉ ?e₉ ?k₉ ?v₉ ?_ ?a₉ ?b₉ ?c₉; (case F₉ => k_asm); (case X₉ => k_asm); (case T₉ => k_asm); (case e₉ => k_is); (case k₉ => k_is); (case v₉ => rfl); (case a₉ => rfl); (case b₉ => rfl); (case c₉ => rfl); k_whole))
  k_with "eval Call" => (k_here; (with_reducible show wpAny _ _ (eval (Expr.Call (Expr.Name _ _) [Expr.Name _ _, Expr.Name _ _] [] _) _) _ _ _); k_dflt (refine' callG2NN ?F₉ ?X₉ ?T₉ ?e₉ ?k₉ ?v₉ ?u₉ ?_ ?a₉ ?b₉ ?c₉ ?d₉; (case F₉ => k_asm); (case X₉ => k_asm); (case T₉ => k_asm); (case e₉ => k_is); (case k₉ => k_is); (case v₉ => rfl); (case u₉ => rfl); (case a₉ => rfl); (case b₉ => rfl); (case c₉ => rfl); (case d₉ => rfl); k_whole))
  k_with "eval Call" => (k_here; (with_reducible show wpAny _ _ (eval (Expr.Call (Expr.Name _ _) [Expr.Name _ _] [] _) _) _ _ _); k_dflt (refine' callG1N ?F₉ ?X₉ ?T₉ ?e₉ ?k₉ ?v₉ ?_ ?a₉ ?b₉ ?c₉; (case F₉ => k_asm); (case X₉ => k_asm); (case T₉ => k_asm); (case e₉ => k_is); (case k₉ => k_is); (case v₉ => rfl); (case a₉ => rfl); (case b₉ => rfl); (case c₉ => rfl); k_whole))
  k_with "exec Raise some none" => (k_here; (with_reducible show wpAny _ _ (exec (Stmt.Raise (some (Expr.Call (Expr.Name _ _) [Expr.Constant _ _ _] [] _)) none _) _) _ _ _); k_dflt (refine' raise_line ?B₉ ?F₉ ?N₉ ?X₉ ?Y₉ ?T₉ ?U₉ ?hd₉ ?hu₉ ?_ ?a₉ ?b₉; (case a₉ => rfl); (case b₉ => rfl); (case B₉ => k_asm); (case F₉ => k_asm); (case N₉ => k_asm); (case X₉ => k_asm); (case Y₉ => k_in); (case T₉ => k_asm); (case U₉ => first | k_asm | exact Top.keeps (by k_asm) (Below.stays (by k_asm))); walk_at "zD"); intro e'₉ h'₉ tk'₉ R'₉; (try dsimp only at R'₉ ⊢))
  k_with "getAttr ref" => (k_here; (with_reducible show wpAny _ _ (getAttr (Value.ref _) (PySem.Str.ofString "kind") _) _ _ _); k_dflt (refine' get_kind ?F₉ ?X₉ ?N₉ ?m₉ ?d₉ ?_; (case F₉ => k_asm); (case X₉ => k_asm); (case N₉ => k_asm); (case m₉ => k_mem); (case d₉ => k_mem); k_whole))
  k_with "eval Attribute Name" => (k_here; (with_reducible show wpAny _ _ (eval (Expr.Attribute (Expr.Name _ _) (PySem.Str.ofString "kind") _) _) _ _ _); k_dflt (refine' attrN_kind ?F₉ ?X₉ ?N₉ ?v₉ ?m₉ ?d₉ ?_ ?a₉ ?b₉; (case a₉ => rfl); (case b₉ => rfl); (case F₉ => k_asm); (case X₉ => k_asm); (case N₉ => k_asm); (case v₉ => rfl); (case m₉ => k_mem); (case d₉ => k_mem); k_whole))
  k_with "getAttr ref" => (k_here; (with_reducible show wpAny _ _ (getAttr (Value.ref _) (PySem.Str.ofString "width") _) _ _ _); k_dflt (refine' get_width ?F₉ ?X₉ ?N₉ ?m₉ ?d₉ ?_; (case F₉ => k_asm); (case X₉ => k_asm); (case N₉ => k_asm); (case m₉ => k_mem); (case d₉ => k_mem); k_whole))
  k_with "eval Attribute Name" => (k_here; (with_reducible show wpAny _ _ (eval (Expr.Attribute (Expr.Name _ _) (PySem.Str.ofString "width") _) _) _ _ _); k_dflt (refine' attrN_width ?F₉ ?X₉ ?N₉ ?v₉ ?m₉ ?d₉ ?_ ?a₉ ?b₉; (case a₉ => rfl); (case b₉ => rfl); (case F₉ => k_asm); (case X₉ => k_asm); (case N₉ => k_asm); (case v₉ => rfl); (case m₉ => k_mem); (case d₉ => k_mem); k_whole))
  k_with "getAttr ref" => (k_here; (with_reducible show wpAny _ _ (getAttr (Value.ref _) (PySem.Str.ofString "height") _) _ _ _); k_dflt (refine' get_height ?F₉ ?X₉ ?N₉ ?m₉ ?d₉ ?_; (case F₉ => k_asm); (case X₉ => k_asm); (case N₉ => k_asm); (case m₉ => k_mem); (case d₉ => k_mem); k_whole))
  k_with "eval Attribute Name" => (k_here; (with_reducible show wpAny _ _ (eval (Expr.Attribute (Expr.Name _ _) (PySem.Str.ofString "height") _) _) _ _ _); k_dflt (refine' attrN_height ?F₉ ?X₉ ?N₉ ?v₉ ?m₉ ?d₉ ?_ ?a₉ ?b₉; (case a₉ => rfl); (case b₉ => rfl); (case F₉ => k_asm); (case X₉ => k_asm); (case N₉ => k_asm); (case v₉ => rfl); (case m₉ => k_mem); (case d₉ => k_mem); k_whole))
  k_with "getAttr ref" => (k_here; (with_reducible show wpAny _ _ (getAttr (Value.ref _) (PySem.Str.ofString "palette") _) _ _ _); k_dflt (refine' get_palette ?F₉ ?X₉ ?N₉ ?m₉ ?d₉ ?_; (case F₉ => k_asm); (case X₉ => k_asm); (case N₉ => k_asm); (case m₉ => k_mem); (case d₉ => k_mem); k_whole))
  k_with "eval Attribute Name" => (k_here; (with_reducible show wpAny _ _ (eval (Expr.Attribute (Expr.Name _ _) (PySem.Str.ofString "palette") _) _) _ _ _); k_dflt (refine' attrN_palette ?F₉ ?X₉ ?N₉ ?v₉ ?m₉ ?d₉ ?_ ?a₉ ?b₉; (case a₉ => rfl); (case b₉ => rfl); (case F₉ => k_asm); (case X₉ => k_asm); (case N₉ => k_asm); (case v₉ => rfl); (case m₉ => k_mem); (case d₉ => k_mem); k_whole))
  k_with "getAttr ref" => (k_here; (with_reducible show wpAny _ _ (getAttr (Value.ref _) (PySem.Str.ofString "octets") _) _ _ _); k_dflt (refine' get_octets ?F₉ ?X₉ ?N₉ ?m₉ ?d₉ ?_; (case F₉ => k_asm); (case X₉ => k_asm); (case N₉ => k_asm); (case m₉ => k_mem); (case d₉ => k_mem); k_whole))
  k_with "eval Attribute Name" => (k_here; (with_reducible show wpAny _ _ (eval (Expr.Attribute (Expr.Name _ _) (PySem.Str.ofString "octets") _) _) _ _ _); k_dflt (refine' attrN_octets ?F₉ ?X₉ ?N₉ ?v₉ ?m₉ ?d₉ ?_ ?a₉ ?b₉; (case a₉ => rfl); (case b₉ => rfl); (case F₉ => k_asm); (case X₉ => k_asm); (case N₉ => k_asm); (case v₉ => rfl); (case m₉ => k_mem); (case d₉ => k_mem); k_whole))
  k_with "eval Call" => (k_here; (with_reducible show wpAny _ _ (eval (Expr.Call (Expr.Name (PySem.Str.ofString "abs") _) [_] [] _) _) _ _ _); k_dflt (refine' callB1 ?F₉ ?X₉ ?T₉ ?e₉ ?b₉ ?n₉ ?_ ?a₉ ?c₉ ?d₉; (case F₉ => k_asm); (case X₉ => k_asm); (case T₉ => k_asm); (case e₉ => k_is); (case b₉ => boot_fast); (case n₉ => decide); (case a₉ => rfl); (case c₉ => rfl); (case d₉ => rfl); k_whole))
  k_with "eval Call" => (k_here; (with_reducible show wpAny _ _ (eval (Expr.Call (Expr.Name (PySem.Str.ofString "abs") _) [Expr.Name _ _] [] _) _) _ _ _); k_dflt (refine' callB1N ?F₉ ?X₉ ?T₉ ?e₉ ?b₉ ?n₉ ?v₉ ?_ ?a₉ ?c₉ ?d₉; (case F₉ => k_asm); (case X₉ => k_asm); (case T₉ => k_asm); (case e₉ => k_is); (case b₉ => boot_fast); (case n₉ => decide); (case v₉ => rfl); (case a₉ => rfl); (case c₉ => rfl); (case d₉ => rfl); k_whole))
  k_with "eval Call" => (k_here; (with_reducible show wpAny _ _ (eval (Expr.Call (Expr.Name (PySem.Str.ofString "int") _) [_] [] _) _) _ _ _); k_dflt (refine' callT1 ?F₉ ?X₉ ?T₉ ?e₉ ?b₉ ?n₉ ?_ ?a₉ ?c₉ ?d₉; (case F₉ => k_asm); (case X₉ => k_asm); (case T₉ => k_asm); (case e₉ => k_is); (case b₉ => boot_fast); (case n₉ => decide); (case a₉ => rfl); (case c₉ => rfl); (case d₉ => rfl); k_whole))
  k_with "eval Call" => (k_here; (with_reducible show wpAny _ _ (eval (Expr.Call (Expr.Name (PySem.Str.ofString "int") _) [Expr.Name _ _] [] _) _) _ _ _); k_dflt (refine' callT1N ?F₉ ?X₉ ?T₉ ?e₉ ?b₉ ?n₉ ?v₉ ?_ ?a₉ ?c₉ ?d₉; (case F₉ => k_asm); (case X₉ => k_asm); (case T₉ => k_asm); (case e₉ => k_is); (case b₉ => boot_fast); (case n₉ => decide); (case v₉ => rfl); (case a₉ => rfl); (case c₉ => rfl); (case d₉ => rfl); k_whole))
  k_with "eval Call" => (k_here; (with_reducible show wpAny _ _ (eval (Expr.Call (Expr.Name (PySem.Str.ofString "tuple") _) [_] [] _) _) _ _ _); k_dflt (refine' callT1 ?F₉ ?X₉ ?T₉ ?e₉ ?b₉ ?n₉ ?_ ?a₉ ?c₉ ?d₉; (case F₉ => k_asm); (case X₉ => k_asm); (case T₉ => k_asm); (case e₉ => k_is); (case b₉ => boot_fast); (case n₉ => decide); (case a₉ => rfl); (case c₉ => rfl); (case d₉ => rfl); k_whole))
  k_with "eval Call" => (k_here; (with_reducible show wpAny _ _ (eval (Expr.Call (Expr.Name (PySem.Str.ofString "tuple") _) [Expr.Name _ _] [] _) _) _ _ _); k_dflt (refine' callT1N ?F₉ ?X₉ ?T₉ ?e₉ ?b₉ ?n₉ ?v₉ ?_ ?a₉ ?c₉ ?d₉; (case F₉ => k_asm); (case X₉ => k_asm); (case T₉ => k_asm); (case e₉ => k_is); (case b₉ => boot_fast); (case n₉ => decide); (case v₉ => rfl); (case a₉ => rfl); (case c₉ => rfl); (case d₉ => rfl); k_whole))
  k_with "eval Call" => (k_here; (with_reducible show wpAny _ _ (eval (Expr.Call (Expr.Name (PySem.Str.ofString "range") _) [_] [] _) _) _ _ _); k_dflt (refine' callT1 ?F₉ ?X₉ ?T₉ ?e₉ ?b₉ ?n₉ ?_ ?a₉ ?c₉ ?d₉; (case F₉ => k_asm); (case X₉ => k_asm); (case T₉ => k_asm); (case e₉ => k_is); (case b₉ => boot_fast); (case n₉ => decide); (case a₉ => rfl); (case c₉ => rfl); (case d₉ => rfl); k_whole))
  k_with "eval Call" => (k_here; (with_reducible show wpAny _ _ (eval (Expr.Call (Expr.Name (PySem.Str.ofString "range") _) [Expr.Name _ _] [] _) _) _ _ _); k_dflt (refine' callT1N ?F₉ ?X₉ ?T₉ ?e₉ ?b₉ ?n₉ ?v₉ ?_ ?a₉ ?c₉ ?d₉; (case F₉ => k_asm); (case X₉ => k_asm); (case T₉ => k_asm); (case e₉ => k_is); (case b₉ => boot_fast); (case n₉ => decide); (case v₉ => rfl); (case a₉ => rfl); (case c₉ => rfl); (case d₉ => rfl); k_whole))
  k_with "eval Call" => (k_here; (with_reducible show wpAny _ _ (eval (Expr.Call (Expr.Name (PySem.Str.ofString "bytes") _) [_] [] _) _) _ _ _); k_dflt (refine' callT1 ?F₉ ?X₉ ?T₉ ?e₉ ?b₉ ?n₉ ?_ ?a₉ ?c₉ ?d₉; (case F₉ => k_asm); (case X₉ => k_asm); (case T₉ => k_asm); (case e₉ => k_is); (case b₉ => boot_fast); (case n₉ => decide); (case a₉ => rfl); (case c₉ => rfl); (case d₉ => rfl); k_whole))
  k_with "eval Call" => (k_here; (with_reducible show wpAny _ _ (eval (Expr.Call (Expr.Name (PySem.Str.ofString "bytes") _) [Expr.Name _ _] [] _) _) _ _ _); k_dflt (refine' callT1N ?F₉ ?X₉ ?T₉ ?e₉ ?b₉ ?n₉ ?v₉ ?_ ?a₉ ?c₉ ?d₉; (case F₉ => k_asm); (case X₉ => k_asm); (case T₉ => k_asm); (case e₉ => k_is); (case b₉ => boot_fast); (case n₉ => decide); (case v₉ => rfl); (case a₉ => rfl); (case c₉ => rfl); (case d₉ => rfl); k_whole))
  k_with "eval Call" => (k_here; (with_reducible show wpAny _ _ (eval (Expr.Call (Expr.Name (PySem.Str.ofString "max") _) [_] [] _) _) _ _ _); k_dflt (refine' callB1 ?F₉ ?X₉ ?T₉ ?e₉ ?b₉ ?n₉ ?_ ?a₉ ?c₉ ?d₉; (case F₉ => k_asm); (case X₉ => k_asm); (case T₉ => k_asm); (case e₉ => k_is); (case b₉ => boot_fast); (case n₉ => decide); (case a₉ => rfl); (case c₉ => rfl); (case d₉ => rfl); k_whole))
  k_with "eval Call" => (k_here; (with_reducible show wpAny _ _ (eval (Expr.Call (Expr.Name (PySem.Str.ofString "max") _) [Expr.Name _ _] [] _) _) _ _ _); k_dflt (refine' callB1N ?F₉ ?X₉ ?T₉ ?e₉ ?b₉ ?n₉ ?v₉ ?_ ?a₉ ?c₉ ?d₉; (case F₉ => k_asm); (case X₉ => k_asm); (case T₉ => k_asm); (case e₉ => k_is); (case b₉ => boot_fast); (case n₉ => decide); (case v₉ => rfl); (case a₉ => rfl); (case c₉ => rfl); (case d₉ => rfl); k_whole))
  k_with "eval Call" => (k_here; (with_reducible show wpAny _ _ (eval (Expr.Call (Expr.Name (PySem.Str.ofString "sorted") _) [_] [] _) _) _ _ _); k_dflt (refine' callB1 ?F₉ ?X₉ ?T₉ ?e₉ ?b₉ ?n₉ ?_ ?a₉ ?c₉ ?d₉; (case F₉ => k_asm); (case X₉ => k_asm); (case T₉ => k_asm); (case e₉ => k_is); (case b₉ => boot_fast); (case n₉ => decide); (case a₉ => rfl); (case c₉ => rfl); (case d₉ => rfl); k_whole))
  k_with "eval Call" => (k_here; (with_reducible show wpAny _ _ (eval (Expr.Call (Expr.Name (PySem.Str.ofString "sorted") _) [Expr.Name _ _] [] _) _) _ _ _); k_dflt (refine' callB1N ?F₉ ?X₉ ?T₉ ?e₉ ?b₉ ?n₉ ?v₉ ?_ ?a₉ ?c₉ ?d₉; (case F₉ => k_asm); (case X₉ => k_asm); (case T₉ => k_asm); (case e₉ => k_is); (case b₉ => boot_fast); (case n₉ => decide); (case v₉ => rfl); (case a₉ => rfl); (case c₉ => rfl); (case d₉ => rfl); k_whole))
  k_with "eval Call" => (k_here; (with_reducible show wpAny _ _ (eval (Expr.Call (Expr.Name (PySem.Str.ofString "len") _) [_] [] _) _) _ _ _); k_dflt (refine' callB1 ?F₉ ?X₉ ?T₉ ?e₉ ?b₉ ?n₉ ?_ ?a₉ ?c₉ ?d₉; (case F₉ => k_asm); (case X₉ => k_asm); (case T₉ => k_asm); (case e₉ => k_is); (case b₉ => boot_fast); (case n₉ => decide); (case a₉ => rfl); (case c₉ => rfl); (case d₉ => rfl); k_whole))
  k_with "eval Call" => (k_here; (with_reducible show wpAny _ _ (eval (Expr.Call (Expr.Name (PySem.Str.ofString "len") _) [Expr.Name _ _] [] _) _) _ _ _); k_dflt (refine' callB1N ?F₉ ?X₉ ?T₉ ?e₉ ?b₉ ?n₉ ?v₉ ?_ ?a₉ ?c₉ ?d₉; (case F₉ => k_asm); (case X₉ => k_asm); (case T₉ => k_asm); (case e₉ => k_is); (case b₉ => boot_fast); (case n₉ => decide); (case v₉ => rfl); (case a₉ => rfl); (case c₉ => rfl); (case d₉ => rfl); k_whole))
  trivial

theorem take_raw {w : World} {p : Program} {loose : List Str} {mean : ExcName → Option Value} {mg mb : Str → Option Value}
    {dp un : Nat} {gd : Option (List Code)} {l : List Env} {base : Heap} {s : Shared} {Q E : Value → Shared → Prop} {src : Addr} {x y : Int} {tx ty : Tok} {n : Nat} {top : Int} {tt : Tok}
    (B : Below (Ar dp un gd l) base l s.heap) (X : (Mine.pre.heap_1 w.params).In base) (T : Top p loose mean mg mb base)
    (hs : s.heap.get? src = some (W.listOf #[.int x tx, .int y ty] n)) (hsb : base.get? src = none) (hsl : src ∉ l.filterMap (·.frame))
    (hd : dp + 20 < recursionLimit) (hu : un + 100 < cLine) (hx : 0 ≤ x) (hy : 0 ≤ y) (hy2 : y < 2147483647) (ht : 0 < top) (ht2 : top < 100)
    (hret : ∀ (r : Int) (t : Tok) (x' y' : Int) (tx' ty' : Tok) (n' : Nat) (h' : Heap) (tk' : Nat), 0 ≤ r → r < top → 0 ≤ x' → 0 ≤ y' → y' < 2147483647 →
      Kp [src] s.heap h' → h'.get? src = some (W.listOf #[.int x' tx', .int y' ty'] n') → Q (.int r t) { s with heap := h', toks := tk' }) :
    wpAny (model PySem.Challenge.rw_ok0139_01.row.prog w) (Ar dp un gd l) (call (.ref 165) [.ref src, .int top tt]) Q E s := by
  revert X
  k_fill
  intro X
  refine wpAny_call ?_
  k_dflt (refine' enter_raw (own := [(src, W.listOf #[.int x tx, .int y ty] n)]) B X T ?hown ?k6 ?k7 ?k8 ?k9 ?kB ?_ ?c2 ?c3 ?c4 ?c5)
  case hown => intro q hq; cases List.mem_singleton.mp hq; exact ⟨hs, hsb, hsl⟩
  case k6 => k_is
  case k7 => k_is
  case k8 => exact room0 hd
  case k9 => exact BindsTo.of_eq rfl
  case c5 => decide
  case kB => exact locs rfl
  case c2 => exact rfl
  case c3 => exact rfl
  case c4 => exact rfl
  intro g' L' h' hkp F' N' B' X' T' l1
  (try dsimp only); (try k_fold)
  k_steps
  all_goals (simp only [getD2_0, getD2_1] at *)
  all_goals (try dsimp only [LeaveO])
  · refine hret _ _ _ _ _ _ _ _ _ ?_ ?_ ?_ hy hy2 (fun b o e nb => Fr.keep (by assumption) b o (hkp b o e nb)) (News.get (by assumption) (List.Mem.head _))
    · exact fmod_lo _ ht
    · exact fmod_hi _ ht
    · exact Int.fdiv_nonneg hx (Int.le_of_lt ht)
  · refine hret _ _ _ _ _ _ _ _ _ ?_ ?_ hx ?_ ?_ (fun b o e nb => Fr.keep (by assumption) b o (hkp b o e nb)) (News.get (by assumption) (List.Mem.head _))
    · exact fmod_lo _ ht
    · exact fmod_hi _ ht
    · exact fmod_lo _ (by decide)
    · exact fmod_hi _ (by decide)
theorem take_line {w : World} {p : Program} {loose : List Str} {mean : ExcName → Option Value} {mg mb : Str → Option Value}
    {dp un : Nat} {gd : Option (List Code)} {outer : List Env} {env : Env} {base h₀ : Heap} {L : Addr} {m : Str → Option Value} {news : List (Addr × Obj)} {news' : Obj → List (Addr × Obj)} {s : Shared} {Q E : Value → Shared → Prop} {src : Addr} {R : SrcR} {top : Int} {tt : Tok}
    (B : Below (Ar dp un gd outer) base outer h₀) (F : Fr h₀ L s.heap m) (N : News h₀ L s.heap news) (X : (Mine.pre.heap_1 w.params).In base) (T : Top p loose mean mg mb base) (hf : env.frame = some L) (hke : env.scope.kind = .function)
    (U : ∀ o', Upd src (srcO R) o' news (news' o')) (ht : 0 < top) (ht2 : top < 100)
    (hd : dp + 21 < recursionLimit) (hu : un + 103 < cLine)
    (hret : ∀ (r : Int) (t : Tok) (R' : SrcR) (h' : Heap) (tk' : Nat), 0 ≤ r → r < top →
      Fr h₀ L h' m → News h₀ L h' (news' (srcO R')) → Q (.int r t) { s with heap := h', toks := tk' }) :
    wpAny (model PySem.Challenge.rw_ok0139_01.row.prog w) ((Ar dp un gd outer).deeper env) (call (.ref 165) [.ref src, .int top tt]) Q E s := by
  have mem : (src, srcO R) ∈ news := by
    obtain ⟨pre, post, rfl, _⟩ := (U default).split
    simp
  refine take_raw (dp := dp + 1) (un := un + 3) (l := env :: outer) (gd := gd) (below_here B F hf hke) X T (N _ mem).1 (none_base B (N _ mem).2.2) (not_frame B N hf mem) (room2 hd rfl) (room2 hu rfl) R.2.1 R.2.2.1 R.2.2.2 ht ht2 ?_
  intro r t x' y' tx' ty' n' h' tk' a1 a2 a3 a4 a5 k e
  obtain ⟨F', N'⟩ := use_kp1 F N (U _) k e
  exact hret r t (SrcR.of x' y' tx' ty' n' a3 a4 a5) h' tk' a1 a2 F' N'

theorem lay_22 : True := by
  k_with "call ref" => (k_here; (with_reducible show wpAny _ _ (call (Value.ref 165) _) _ _ _); k_dflt (refine' take_line ?B₉ ?F₉ ?N₉ ?X₉ ?T₉ ?hf₉ ?hke₉ ?U₉ ?ht₉ ?ht2₉ ?hd₉ ?hu₉ ?_; walk_at "zA"; (case U₉ => intro _; k_upd); (case ht₉ => decide); (case ht2₉ => decide); walk_at "zD"); intro r'₉ t'₉ R'₉ h'₉ tk'₉ rlo rhi F'₉ N'₉; (try dsimp only at N'₉); (try k_sweep))
  trivial

theorem small_range {a b : Int} (h1 : -1000 ≤ a) (h2 : a ≤ 100000) (h3 : -1000 ≤ b) (h4 : b ≤ 100000) : Builtin.Range.small a b 1 = true := by
  unfold Builtin.Range.small Builtin.Range.rangeFitsLong
  rw [rangeSize_nat]
  simp only [Bool.and_eq_true, Bool.or_eq_true, decide_eq_true_eq, beq_iff_eq]
  refine ⟨⟨⟨⟨⟨?_, ?_⟩, ?_, ?_⟩, by decide⟩, ?_, ?_⟩, Or.inr ?_⟩ <;> first | omega | (rw [if_pos (by decide)]; simp only [Bool.and_eq_true, decide_eq_true_eq]; omega)
/-- a loop over range(b): J speaks of the ledger's first part alone; the names of st are forgotten -/
theorem rng_loop {prog : Program} {w : World} {A : Around} {E : Value → Shared → Prop} {s : Shared} {env : Env} {h₀ : Heap} {x : Str} {body : List Stmt} {Q : Flow → Shared → Prop}
    {r : Addr} {b : Int} {t₀ u₀ v₀ : Tok} {m₀ : Str → Option Value} {news : List (Addr × Obj)} (st : List Str) (J : Nat → List (Addr × Obj) → Prop)
    (hh : A.handled = none) (hr : IsRange s.heap r 0 b 1 t₀ u₀ v₀) (hb0 : 0 ≤ b) (hb1 : b ≤ 1000) (F : Fr h₀ env.locals s.heap m₀) (N : News h₀ env.locals s.heap news) (hj : J 0 news)
    (turn : ∀ (i : Nat) (k : Int) (t : Tok) (m₁ : Str → Option Value) (nx : List (Addr × Obj)) (h : Heap) (tk : Nat) (own : List (Addr × Obj)), k = (i : Int) → (i : Int) < b → OwnOff own (news.map (·.1)) → J i nx → Fr h₀ env.locals h (fun y => if y = x then some (.int k t) else if st.contains y then m₁ y else m₀ y) → News h₀ env.locals h (nx ++ own) →
      wpAny (model prog w) A (execs body env) (InvPostN h₀ env.locals (fun m nx => J (i + 1) nx ∧ ∀ z, z ≠ x → st.contains z = false → m z = m₀ z) own (news.map (·.1)) { s with heap := h, toks := tk } Q) E { s with heap := h, toks := tk })
    (done : ∀ (m₁ : Str → Option Value) (nx : List (Addr × Obj)) (h : Heap) (tk : Nat), J b.toNat nx → Fr h₀ env.locals h (fun y => if y = x then m₁ y else if st.contains y then m₁ y else m₀ y) → News h₀ env.locals h nx → Q .next { s with heap := h, toks := tk }) :
    wpAny (model prog w) A (pyIter (.ref r)) (fun it s₂ => LoopAtV prog w A h₀ env x body Q E it s₂) E s := by
  have hsz : Builtin.Range.rangeSize 0 b 1 = ((b.toNat : Nat) : Int) := by rw [rangeSize_nat]; simp
  have fe : ∀ (m₁ : Str → Option Value) (u : Option Value), (∀ z, z ≠ x → st.contains z = false → m₁ z = m₀ z) → (fun y => if y = x then u else m₁ y) = (fun y => if y = x then u else if st.contains y then m₁ y else m₀ y) := fun m₁ u hm => by
    funext y
    by_cases h1 : y = x
    · simp [h1]
    · simp only [if_neg h1]
      cases h2 : st.contains y with
      | true => rfl
      | false => exact hm y h1 h2
  refine kpr_invN (fun i m nx => J i nx ∧ ∀ z, z ≠ x → st.contains z = false → m z = m₀ z) hh hr (small_range (by decide) (by decide) (by omega) (by omega)) hsz F N ⟨hj, fun _ _ _ => rfl⟩ ?_ ?_
  · rintro i k t m₁ nx h tk own hk ho ⟨hJ, hm⟩ F₁ N₁
    rw [fe m₁ _ hm] at F₁
    have hi : i < b.toNat ∧ k = (i : Int) := by
      unfold rangeKs at hk
      rw [List.getElem?_map] at hk
      obtain ⟨j, hj, e⟩ := Option.map_eq_some_iff.mp hk
      have := List.getElem?_eq_some_iff.mp hj
      obtain ⟨h1, h2⟩ := this
      simp at h1 h2
      omega
    exact turn i k t m₁ nx h tk own hi.2 (by omega) ho hJ F₁ N₁
  · rintro m₁ nx h tk ⟨hJ, hm⟩ F₁ N₁
    rw [rangeKs_length] at hJ
    have e2 : m₁ = fun y => if y = x then m₁ y else m₁ y := by funext y; split <;> rfl
    refine done m₁ nx h tk hJ ?_ N₁
    have e3 : m₁ = (fun y => if y = x then m₁ y else if st.contains y then m₁ y else m₀ y) := by
      funext y
      by_cases h1 : y = x
      · simp [h1]
      · simp only [if_neg h1]
        cases h2 : st.contains y with
        | true => rfl
        | false => exact hm y h1 h2
    rw [← e3]; exact F₁
/-- the walk stands still here -/
def Hold (P : Prop) : Prop := P
theorem Hold.of {P : Prop} (h : Hold P) : P := h
theorem sub_cons {α : Type} {a : α} {l l' : List α} (h1 : a ∈ l') (h2 : ∀ p ∈ l, p ∈ l') : ∀ p ∈ a :: l, p ∈ l' := List.forall_mem_cons.mpr ⟨h1, h2⟩
section
open PySem.W.X
theorem kp_mem {h₀ h : Heap} {news : List (Addr × Obj)} (D : Mem h₀ h [] news) : Kp [] h₀ h := fun b o e _ => D.old b o e (by unfold away; simp)
theorem kp_mem_new {h₀ h : Heap} {a : Addr} {o : Obj} {chg news : List (Addr × Obj)} (D : Mem h₀ h chg ((a, o) :: news)) : h.get? a = some o ∧ h₀.get? a = none := D.nw _ (.head _)
theorem lay_24_0 : True := by
  k_with "zx_close" => ((rename ∀ _, _ => hret; exact hret _ _ _ (kp_mem (by assumption))))
  trivial
local macro_rules | `(tactic| x_close) => `(tactic| k_extra "zx_close")
theorem tuple_bytes3 {w : World} {dp un : Nat} {gd : Option (List Code)} {l : List Env} {s : Shared} {Q E : Value → Shared → Prop} {b0 b1 b2 : UInt8} {t : Tok} (hd : dp + 3 < recursionLimit) (hu : un + 20 < cLine)
    (hret : ∀ (a : Addr) (h' : Heap) (tk' : Nat), Kp [] s.heap h' → Q (.ref a) { s with heap := h', toks := tk' }) :
    wpAny (model PySem.Challenge.rw_ok0139_01.row.prog w) (Ar dp un gd l) (call (.type "tuple") [.bytes #[b0, b1, b2] t]) Q E s := by
  x_run
end
theorem bytes3 {b : Array UInt8} (h : b.size = 3) : ∃ b0 b1 b2, b = #[b0, b1, b2] := by
  obtain ⟨l⟩ := b
  match l, h with
  | [a, b, c], _ => exact ⟨a, b, c, rfl⟩
theorem tuple_line {w : World} {dp un : Nat} {gd : Option (List Code)} {outer : List Env} {env : Env} {h₀ : Heap} {L : Addr} {m : Str → Option Value} {news : List (Addr × Obj)} {s : Shared} {Q E : Value → Shared → Prop} {b : Array UInt8} {t : Tok}
    (F : Fr h₀ L s.heap m) (N : News h₀ L s.heap news) (hb : b.size = 3) (hd : dp + 4 < recursionLimit) (hu : un + 23 < cLine)
    (hret : ∀ (a : Addr) (h' : Heap) (tk' : Nat), Fr h₀ L h' m → News h₀ L h' news → Q (.ref a) { s with heap := h', toks := tk' }) :
    wpAny (model PySem.Challenge.rw_ok0139_01.row.prog w) ((Ar dp un gd outer).deeper env) (call (.type "tuple") [.bytes b t]) Q E s := by
  obtain ⟨b0, b1, b2, rfl⟩ := bytes3 hb
  exact tuple_bytes3 (dp := dp + 1) (un := un + 3) (l := env :: outer) (gd := gd) (room2 hd rfl) (room2 hu rfl) fun a h' tk' k => hret a h' tk' (F.keeps fun b o e => k b o e (fun z => nomatch z)) fun q hq => ⟨k _ _ (N q hq).1 (fun z => nomatch z), (N q hq).2⟩
section
variable {prog : Program} {w : World} {A : Around} {E : Value → Shared → Prop} {s : Shared} {value slice : PySem.Expr} {b : Array UInt8} {t : Tok} {h₀ : Heap} {L : Addr} {m : PySem.Str → Option Value} {news : List (Addr × Obj)} {l u : Value} {lo hi : Option Int} {Q : Value → Shared → Prop} {i : Int}
theorem my_slice (hF : Fr h₀ L s.heap m) (hN : News h₀ L s.heap news) (hl : IsPart l lo) (hu : IsPart u hi) (hz : b.size ≤ 16777216)
    (h : ∀ h' t' k, Fr h₀ L h' m → News h₀ L h' news → (KBy.picked b lo hi).size ≤ b.size → Q (.bytes (KBy.picked b lo hi) t') { s with heap := h', toks := k })
    (hs : subscripted slice false (.bytes b t) (.ref s.heap.objs.size) = operate [.ref s.heap.objs.size, .bytes b t] (getItem (.bytes b t) (.ref s.heap.objs.size)) := by with_unfolding_all rfl)
    (ht : ∀ r, letTemporaryGo value (.bytes b t) r = pure () := by intro _; with_unfolding_all rfl) :
    wpAny (model prog w) A (subscriptTail value slice (.bytes b t) (.ref s.heap.objs.size)) Q E { s with heap := s.heap.push { cls := .type "slice", data := .fields #[l, u, .none] } } :=
  KBc.slice_K hF hN rfl hl hu (by rw [KBw.ints_length]; exact hz) (fun h' t' k F N _ => h h' t' k F N (KBc.size_picked_le b lo hi)) hs ht
theorem my_item {ui : Tok} (hfit : b.size ≤ 16777216) (h0 : 0 ≤ i) (h1 : i < (b.size : Int)) (h : ∀ (c : Int) t' k, c = ((b.toList.getD i.toNat 0).toNat : Int) → 0 ≤ c → c < 256 → Q (.int c t') { s with toks := k })
    (hs : subscripted slice false (.bytes b t) (.int i ui) = operate [.bytes b t, .int i ui] (getItem (.bytes b t) (.int i ui)) := by with_unfolding_all rfl)
    (ht : ∀ r, letTemporaryGo value (.bytes b t) r = pure () := by intro _; with_unfolding_all rfl) :
    wpAny (model prog w) A (subscriptTail value slice (.bytes b t) (.int i ui)) Q E s := by
  obtain ⟨x⟩ := b
  exact KBy.item_N (x := x) (by simp at hfit; omega) h0 (by simpa using h1) (h _ _ _ rfl (Int.natCast_nonneg _) (by have := (x.getD i.toNat 0).toNat_lt; omega)) hs ht
end
theorem clip_in {n : Nat} {a : Int} (h0 : 0 ≤ a) (h1 : a ≤ n) : clipAt n a = a.toNat := by
  obtain ⟨k, rfl⟩ := Int.eq_ofNat_of_zero_le h0
  rw [clipAt_nat]
  simp
  omega
theorem cut_width {n : Nat} {a c : Int} (h0 : 0 ≤ a) (h1 : a ≤ c) (h2 : c ≤ n) : min (c.toNat - a.toNat) (n - a.toNat) = (c - a).toNat := by
  obtain ⟨a, rfl⟩ := Int.eq_ofNat_of_zero_le h0
  obtain ⟨c, rfl⟩ := Int.eq_ofNat_of_zero_le (Int.le_trans h0 h1)
  rw [Int.toNat_natCast, Int.toNat_natCast, Int.toNat_sub, Nat.min_eq_left (Nat.sub_le_sub_right (Int.ofNat_le.mp h2) a)]
theorem size_picked {b : Array UInt8} {a c : Int} (h0 : 0 ≤ a) (h1 : a ≤ c) (h2 : c ≤ b.size) : (KBy.picked b (some a) (some c)).size = (c - a).toNat := by
  rw [KBc.picked_eq]
  simp only [Option.elim, List.size_toArray, List.length_take, List.length_drop, Array.length_toList]
  rw [clip_in h0 (Int.le_trans h1 h2), clip_in (Int.le_trans h0 h1) h2]
  exact cut_width h0 h1 h2

theorem lay_25 : True := by
  k_with "call type:tuple" => (k_here; (with_reducible show wpAny _ _ (call (Value.type "tuple") [Value.bytes _ _]) _ _ _); k_dflt (refine' tuple_line ?F₉ ?N₉ ?b₉ ?hd₉ ?hu₉ ?_; (case F₉ => k_asm); (case N₉ => k_asm); (case b₉ => first | assumption | omega | exact (size_picked (by omega) (by omega) (by omega)).trans (by omega)); (case hd₉ => first | walk_at "zR" | omega | k_room); (case hu₉ => first | walk_at "zR" | omega | k_units)); intro a'₉ h'₉ tk'₉ F'₉ N'₉; (try k_sweep))
  k_with "subscriptTail" => (k_here; (with_reducible show wpAny _ _ (subscriptTail _ (Expr.Slice _ _ none _) (Value.bytes _ _) (Value.ref _)) _ _ _); (with_reducible rename Fr _ _ _ _ => F'₉); (with_reducible rename News _ _ _ _ => N'₉); (refine my_slice (s := ⟨_, _, _, _, _⟩) F'₉ N'₉ (by constructor) (by constructor) (by first | walk_at "zB" | omega | (simp only [Array.size_append, List.size_toArray, List.length_cons, List.length_nil]; omega)) ?_); intro h'₉ t'₉ k'₉ F'₉ N'₉ hsz'₉; (try k_sweep))
  k_with "subscriptTail" => (k_here; (with_reducible show wpAny _ _ (subscriptTail _ _ (Value.bytes _ _) (Value.int _ _)) _ _ _); (refine my_item (by first | walk_at "zB" | omega | (simp only [Array.size_append, List.size_toArray, List.length_cons, List.length_nil]; omega)) (by first | omega | assumption) (by first | omega | assumption) ?_); intro c'₉ t'₉ k'₉ hc'₉ hc0 hc1)
  trivial

section
variable {prog : Program} {w : World} {A : Around} {E : Value → Shared → Prop} {s : Shared}
theorem ifp_false {α : Type} {M : Model} {c : Prop} [Decidable c] {a b : Sem α} {Q : α → Shared → Prop} (hc : ¬ c) (h : wpAny M A b Q E s) : wpAny M A (if c then a else b) Q E s := by
  rw [if_neg hc]; exact h
theorem zeros_no_bytes : typeLookup (.type "int") "__bytes__" = pure none := by rw [typeLookup_type, PySem.builtinLookup_eq_fast]; kernel_rfl
theorem zeros_index : typeLookup (.type "int") "__index__" = pure (some (.builtin "int.__index__")) := by rw [typeLookup_type, PySem.builtinLookup_eq_fast]; kernel_rfl
theorem zeros_new {n : Int} {t : Tok} {Q : Value → Shared → Prop} (h0 : 0 ≤ n) (hz : n.toNat ≤ sizeLine)
    (hQ : ∀ t k, Q (.bytes (Array.replicate n.toNat 0) t) { s with toks := k }) :
    codeAny (model prog w) A (.call (.builtin "bytes.__new__") ⟨[.type "bytes", .int n t], []⟩) (wants Q E) s := by
  refine codeAny_of_tree ?_
  show wpAny _ A.in1 (do checkBuiltinCall "bytes.__new__" ⟨[.type "bytes", .int n t], []⟩; again (.builtin "bytes.__new__" ⟨[.type "bytes", .int n t], []⟩)) _ _ s
  refine PySem.wpAny_bind (PySem.wpAny_of_eq (F.bm_newCall _) (PySem.wpAny_pure ⟨plainId_quiet F.bm_plain _, codeAny_builtin F.bm_entry ?_⟩))
  rw [Around.under_plainId F.bm_plain _]
  have hT : s.TypeIs (.int n t) "int" := typeIs_int s n t
  unfold Builtin.«bytes.__new__»
  refine PySem.wpAny_bind (PySem.wpAny_of_eq (a := true) rfl ?_)
  refine bm_if_false rfl ?_
  refine PySem.wpAny_bind (PySem.wpAny_of_eq F.bm_sub ?_)
  refine bm_if_false rfl ?_
  refine PySem.wpAny_bind (PySem.wpAny_of_eq (F.bm_bind _) ?_)
  refine PySem.wpAny_bind (PySem.wpAny_of_eq (a := ()) rfl ?_)
  refine PySem.wpAny_bind (PySem.wpAny_of_eq (a := ()) rfl ?_)
  refine bm_if_false rfl ?_
  refine PySem.wpAny_bind (wpAny_specialOf hT zeros_no_bytes ?_)
  refine PySem.wpAny_bind (PySem.wpAny_of_eq (a := false) rfl ?_)
  refine bm_if_false rfl ?_
  refine PySem.wpAny_bind (wpAny_specialOf hT zeros_index ?_)
  refine bm_if_false rfl ?_
  refine PySem.wpAny_bind (wpAny_attempt (PySem.wpAny_of_eq (rfl : asIndex (.int n t) = pure n) ?_))
  refine bm_if_false (by unfold Builtin.Bytes.fitsIndex; simp only [Bool.not_eq_false', Bool.and_eq_true, decide_eq_true_eq]; rw [PySem.sizeLine_eq] at hz; omega) ?_
  refine ifp_false (by omega) ?_
  refine ifp_false (by rw [PySem.sizeLine_eq] at hz; omega) ?_
  refine bm_if_false (by unfold Builtin.Bytes.tooLong; simp only [decide_eq_false_iff_not]; omega) ?_
  refine PySem.wpAny_bind (PySem.wpAny_rule ?_)
  refine PySem.wpAny_bind (wpAny_mkBytes (b := Array.replicate n.toNat 0) ?_ (by simpa using hz))
  show wpAny _ _ (if (Value.type "bytes" == Value.type "bytes") = true then _ else _) _ _ _
  refine bm_if_true (by decide) ?_
  first
    | exact PySem.wpAny_pure (hQ _ _)
    | exact PySem.wpAny_bind (PySem.wpAny_pure (PySem.wpAny_pure (hQ _ _)))
theorem zeros {n : Int} {t : Tok} {Q : Value → Shared → Prop} (h0 : 0 ≤ n) (hz : n.toNat ≤ sizeLine) (hQ : ∀ t k, Q (.bytes (Array.replicate n.toNat 0) t) { s with toks := k }) :
    wpAny (model prog w) A (call (.type "bytes") [.int n t]) Q E s := by
  refine callType_codes (Q₁ := fun obj s₁ => s₁.TypeIs obj "bytes" ∧ Q obj s₁) F.bm_called (F.bm_typeCall _) F.entry_object_init
    (zeros_new h0 hz fun t k => ⟨PySem.W.typeIs_bytes _ _ _, hQ t k⟩) fun obj s₁ h₁ => ?_
  exact ⟨h₁.1, F.args_object_init_2 obj _, object_init_meets F.bm_called.init.lookup F.bm_called.made (by decide) prog w A.in1 _ s₁ ⟨h₁.1, rfl, h₁.2⟩⟩
end

theorem lay_27 : True := by
  k_with "call type:bytes" => (k_here; (with_reducible show wpAny _ _ (call (Value.type "bytes") [Value.int _ _]) _ _ _); (refine zeros (by first | assumption | omega | decide) (by rw [PySem.sizeLine_eq]; first | omega | decide) ?_); intro zt'₉ zk'₉)
  trivial

section
open PySem.SeqAt
variable {prog : Program} {w : World} {A : Around} {E : Value → Shared → Prop} {s : Shared}
theorem eqAt_bytes (b : Array UInt8) (t u : Tok) : EqAt A s (.bytes b t) (.bytes b u) true := fun prog w E Q h => by
  unfold eqBool
  refine wpAny_holding ?_
  refine wpAny_ite_split (fun _ => PySem.wpAny_bind (PySem.wpAny_rule (PySem.wpAny_pure h))) (fun _ => ?_)
  have hc : ∀ (Q' : Value → Shared → Prop), Q' (.bool true) s → wpAny (model prog w) A (compareOp .Eq (.bytes b t) (.bytes b u)) Q' E s := fun Q' hq => PySem.W.eq_bytes (by rw [beq_self_eq_true]; exact hq)
  refine PySem.wpAny_bind (hc _ ?_)
  exact wpAny_truthy_bool h
theorem eqAt_int (a : Int) (t u : Tok) : EqAt A s (.int a t) (.int a u) true := by
  have h := EqAt.int_int (A := A) (s := s) a t a u
  rwa [beq_self_eq_true] at h
theorem eqAt_str (a : Str) (t u : Tok) : EqAt A s (.str a t) (.str a u) true := by
  have h := (eqGives_str a a t u).at A s
  rwa [beq_self_eq_true] at h
noncomputable abbrev rowT (k : Str) (t0 : Tok) (wd : Int) (t1 : Tok) (ht : Int) (t2 : Tok) (P : Array UInt8) (t3 : Tok) (O : Array UInt8) (t4 : Tok) : Array Value := #[.str k t0, .int wd t1, .int ht t2, .bytes P t3, .bytes O t4]
theorem rows_at5 {k : Str} {wd ht : Int} {P O : Array UInt8} {t0 t1 t2 t3 t4 u0 u1 u2 u3 u4 : Tok} : ∀ j (h1 : j < (rowT k t0 wd t1 ht t2 P t3 O t4).size) (h2 : j < (rowT k u0 wd u1 ht u2 P u3 O u4).size),
    EqAt A s (rowT k t0 wd t1 ht t2 P t3 O t4)[j] (rowT k u0 wd u1 ht u2 P u3 O u4)[j] ((fun _ => true) j)
  | 0, _, _ => eqAt_str _ _ _
  | 1, _, _ => eqAt_int _ _ _
  | 2, _, _ => eqAt_int _ _ _
  | 3, _, _ => eqAt_bytes _ _ _
  | 4, _, _ => eqAt_bytes _ _ _
  | n + 5, h, _ => absurd h (by simp [rowT])
theorem row_eq {k : Str} {wd ht : Int} {P O : Array UInt8} {t0 t1 t2 t3 t4 u0 u1 u2 u3 u4 : Tok} {a b : Addr} {Q : Value → Shared → Prop} (ha : s.heap.IsTuple a (rowT k t0 wd t1 ht t2 P t3 O t4)) (hb : s.heap.IsTuple b (rowT k u0 wd u1 ht u2 P u3 O u4)) (hu : A.units < cLine)
    (h : Q (.bool true) s) : wpAny (model prog w) A (compareOp .Eq (.ref a) (.ref b)) Q E s :=
  eq_tupleAt (e := fun _ => true) ha hb hu rows_at5 h
theorem row_ne {k : Str} {wd ht : Int} {P O : Array UInt8} {t0 t1 t2 t3 t4 u0 u1 u2 u3 u4 : Tok} {a b : Addr} {Q : Value → Shared → Prop} (ha : s.heap.IsTuple a (rowT k t0 wd t1 ht t2 P t3 O t4)) (hb : s.heap.IsTuple b (rowT k u0 wd u1 ht u2 P u3 O u4)) (hu : A.units < cLine)
    (h : Q (.bool false) s) : wpAny (model prog w) A (compareOp .NotEq (.ref a) (.ref b)) Q E s :=
  RcNeAt.tuples (e := fun _ => true) ha hb hu rows_at5 prog w E Q h
end
section
variable {prog : Program} {w : World} {A : Around} {E : Value → Shared → Prop} {s : Shared}
theorem list_eq_str {l : Addr} {items : Array Value} {n : Nat} {b : Str} {u : Tok} {Q : Value → Shared → Prop} (hl : s.heap.get? l = some (W.listOf items n)) (hu : A.units < cLine) (h : Q (.bool false) s) : wpAny (model prog w) A (compareOp .Eq (.ref l) (.str b u)) Q E s :=
  SeqAt.RcAt.list_str b u ⟨_, hl, rfl, _, rfl⟩ hu prog w E Q h
theorem item_bytes {a : Addr} {n : Nat} {i : Int} {u : Tok} {value slice : PySem.Expr} {vs : Array Value} {bs : List (Array UInt8)} {Q : Value → Shared → Prop} {h₀ : Heap} {L : Addr} {news : List (Addr × Obj)} (N : News h₀ L s.heap news) (hm : (a, W.listOf vs n) ∈ news)
    (hw : ∀ v ∈ vs.toList, ∃ H t, v = .bytes H t ∧ H ∈ bs) (h0 : 0 ≤ i) (h1 : i < (vs.size : Int)) (h2 : i < 1000)
    (h : ∀ H t, H ∈ bs → Q (.bytes H t) s)
    (hs : subscripted slice false (.ref a) (.int i u) = operate [.ref a, .int i u] (getItem (.ref a) (.int i u)) := by with_unfolding_all rfl) :
    wpAny (model prog w) A (subscriptTail value slice (.ref a) (.int i u)) Q E s := by
  have hl : s.heap.IsList a vs := ⟨_, (N _ hm).1, rfl, _, rfl⟩
  have hlt : i.toNat < vs.size := by omega
  obtain ⟨H, t, e, hH⟩ := hw vs[i.toNat] (by simp)
  exact tail_any hl.typeIs slot_list_getitem.lookup (wpAny_getItem_list hl h0 (by omega) (x := .bytes H t) (by simp [hlt, e]) (h H t hH)) hs
end
section
open PySem.SeqAt
variable {prog : Program} {w : World} {A : Around} {E : Value → Shared → Prop} {s : Shared}
theorem bytes_eq_declines (b : Array UInt8) (t : Tok) (x : Str) (u : Tok) : Meets (Builtin.«bytes.__eq__» ⟨[.bytes b t, .str x u], []⟩) (fun _ R s => R (.ok (.ret .notImplemented)) s) :=
  .of_wp fun prog w A R s h => by obtain ⟨hp, g, d, tk, os⟩ := s; have f1 := F.sub_str_bytes; wp_walk; exact ⟨_, rfl, h⟩
theorem str_eq_declines (b : Array UInt8) (t : Tok) (x : Str) (u : Tok) : Meets (Builtin.«str.__eq__» ⟨[.str x u, .bytes b t], []⟩) (fun _ R s => R (.ok (.ret .notImplemented)) s) :=
  .of_wp fun prog w A R s h => by obtain ⟨hp, g, d, tk, os⟩ := s; have f1 := F.sub_bytes_str; wp_walk; exact ⟨_, rfl, h⟩
theorem bytes_eq_str {b : Array UInt8} {t : Tok} {x : Str} {u : Tok} {Q : Value → Shared → Prop} (h : Q (.bool false) s) : wpAny (model prog w) A (compareOp .Eq (.bytes b t) (.str x u)) Q E s :=
  rc_eq_decline_or (k := false) (PySem.W.typeIs_bytes s b t) (typeIs_str s x u) (by decide) F.sub_str_bytes PySem.W.FB.slot_bytes_eq F.slot_str_eq_refl
    (fun _ hq => call_meets PySem.W.FB.slot_bytes_eq (PySem.W.typeIs_bytes s b t) PySem.W.FB.entry_bytes_eq (PySem.W.FB.args_bytes_eq_2 _ _) (bytes_eq_declines b t x u) hq)
    (fun _ hq => call_meets F.slot_str_eq_refl (typeIs_str s x u) F.entry_str_eq (F.args_str_eq_2 _ _) (str_eq_declines b t x u) hq)
    (fun _ hq => PySem.wpAny_of_eq (rfl : isSame (.bytes b t) (.str x u) = pure false) hq) (.inl rfl) h
end
theorem tuple_ne_str {prog : Program} {w : World} {A : Around} {E : Value → Shared → Prop} {s : Shared} {l : Addr} {items : Array Value} {o : Obj} {b : Str} {u : Tok} {Q : Value → Shared → Prop} {h₀ : Heap} {L : Addr} {news : List (Addr × Obj)} (N : News h₀ L s.heap news) (hm : (l, o) ∈ news) (ho : o.cls = .type "tuple") (hd : o.data = .seq items) (hu : A.units < cLine) (h : Q (.bool true) s) :
    wpAny (model prog w) A (compareOp .NotEq (.ref l) (.str b u)) Q E s :=
  SeqAt.RcNeAt.tuple_str b u ⟨o, (N _ hm).1, ho, _, hd⟩ hu prog w E Q h

theorem lay_29 : True := by
  k_with "compareOp Eq ref ref" => (k_here; (with_reducible show wpAny _ _ (compareOp CmpOp.Eq (Value.ref _) (Value.ref _)) _ _ _); k_dflt (refine' row_eq ?a₉ ?b₉ ?u₉ ?_; (case a₉ => exact ⟨_, News.get (by k_asm) (by k_mem), rfl, _, rfl⟩); (case b₉ => exact ⟨_, News.get (by k_asm) (by k_mem), rfl, _, rfl⟩); (case u₉ => k_units); k_whole))
  k_with "compareOp Eq bytes str" => (k_here; (with_reducible show wpAny _ _ (compareOp CmpOp.Eq (Value.bytes _ _) (Value.str _ _)) _ _ _); refine bytes_eq_str ?_)
  k_with "compareOp NotEq ref str" => (k_here; (with_reducible show wpAny _ _ (compareOp CmpOp.NotEq (Value.ref _) (Value.str _ _)) _ _ _); k_dflt (refine' tuple_ne_str ?N₉ ?m₉ ?c₉ ?d₉ ?u₉ ?_; (case N₉ => k_asm); (case m₉ => k_mem); (case c₉ => exact rfl); (case d₉ => exact rfl); (case u₉ => k_units); k_whole))
  trivial

section
theorem item_kind {prog : Program} {w : World} {A : Around} {E : Value → Shared → Prop} {s : Shared} {a : Addr} {n : Nat} {i : Int} {u : Tok} {value slice : PySem.Expr} {vs : Array Value} {Q : Value → Shared → Prop} {h₀ : Heap} {L : Addr} {news : List (Addr × Obj)} (N : News h₀ L s.heap news) (hm : (a, W.listOf vs n) ∈ news)
    (hw : ∀ v ∈ vs.toList, ∃ k t, v = .str k t ∧ KindOk k) (h0 : 0 ≤ i) (h1 : i < (vs.size : Int)) (h2 : i < 1000)
    (h : ∀ k t, KindOk k → Q (.str k t) s)
    (hs : subscripted slice false (.ref a) (.int i u) = operate [.ref a, .int i u] (getItem (.ref a) (.int i u)) := by with_unfolding_all rfl) :
    wpAny (model prog w) A (subscriptTail value slice (.ref a) (.int i u)) Q E s := by
  have hl : s.heap.IsList a vs := ⟨_, (N _ hm).1, rfl, _, rfl⟩
  have hlt : i.toNat < vs.size := by omega
  obtain ⟨k, t, e, hk⟩ := hw vs[i.toNat] (by simp)
  exact tail_any hl.typeIs slot_list_getitem.lookup (wpAny_getItem_list hl h0 (by omega) (x := .str k t) (by simp [hlt, e]) (h k t hk)) hs
theorem item_range {prog : Program} {w : World} {A : Around} {E : Value → Shared → Prop} {s : Shared} {a : Addr} {n : Nat} {i : Int} {u : Tok} {value slice : PySem.Expr} {vs : Array Value} {Q : Value → Shared → Prop} {h₀ : Heap} {L : Addr} {news : List (Addr × Obj)} (N : News h₀ L s.heap news) (hm : (a, W.listOf vs n) ∈ news)
    (hw : ∀ v ∈ vs.toList, ∃ k t, v = .int k t ∧ 0 ≤ k ∧ k ≤ 768) (h0 : 0 ≤ i) (h1 : i < (vs.size : Int)) (h2 : i < 1000)
    (h : ∀ k t, 0 ≤ k → k ≤ 768 → Q (.int k t) s)
    (hs : subscripted slice false (.ref a) (.int i u) = operate [.ref a, .int i u] (getItem (.ref a) (.int i u)) := by with_unfolding_all rfl) :
    wpAny (model prog w) A (subscriptTail value slice (.ref a) (.int i u)) Q E s := by
  have hl : s.heap.IsList a vs := ⟨_, (N _ hm).1, rfl, _, rfl⟩
  have hlt : i.toNat < vs.size := by omega
  obtain ⟨k, t, e, hk, hk2⟩ := hw vs[i.toNat] (by simp)
  exact tail_any hl.typeIs slot_list_getitem.lookup (wpAny_getItem_list hl h0 (by omega) (x := .int k t) (by simp [hlt, e]) (h k t hk hk2)) hs
end
theorem bytes_mul1 {prog : Program} {w : World} {A : Around} {E : Value → Shared → Prop} {s : Shared} {b : Array UInt8} {n : Int} {t u : Tok} {Q : Value → Shared → Prop} (hb : b.size = 1) (h0 : 0 ≤ n) (h1 : n ≤ 100000)
    (h : ∀ B t' k, B.size = n.toNat → Q (.bytes B t') { s with toks := k }) : wpAny (model prog w) A (binaryOp .Mult (.bytes b t) (.int n u)) Q E s := by
  obtain ⟨l⟩ := b
  match l, hb with
  | [c], _ => exact bytes_mul_any (by simp) (by omega) (by omega) (by simp) fun t' k => h _ _ _ (by simp [List.length_flatten])
theorem merge_int {M : Model} {A : Around} {m : Sem Value} {Q E : Value → Shared → Prop} {s : Shared} (lo hi : Int) (h1 : wpAny M A m (fun v s' => ∃ i t tk', v = .int i t ∧ lo ≤ i ∧ i ≤ hi ∧ s' = { s with toks := tk' }) E s)
    (h2 : ∀ i t tk', lo ≤ i → i ≤ hi → Q (.int i t) { s with toks := tk' }) : wpAny M A m Q E s :=
  PySem.wpAny_mono h1 (fun v s' ⟨i, t, tk', e, a, b, e'⟩ => by subst e e'; exact h2 i t tk' a b) fun _ _ x => x
theorem mulb {a b : Int} (h0 : 0 ≤ a) (h1 : a ≤ 9) (h2 : 0 ≤ b) (h3 : b ≤ 2) : 0 ≤ a * b ∧ a * b ≤ 100 :=
  ⟨Int.mul_nonneg h0 h2, Int.le_trans (Int.mul_le_mul (c := 9) (d := 2) h1 h3 h2 (by decide)) (by decide)⟩
theorem mem_one {P : Addr × Obj → Prop} {a : Addr × Obj} (h : P a) : ∀ q ∈ [a], P q := fun q hq => by cases List.mem_singleton.mp hq; exact h
section
open Builtin
theorem br_no_bytes : typeLookup (.type "range") "__bytes__" = pure none := by rw [typeLookup_type, PySem.builtinLookup_eq_fast]; kernel_rfl
theorem br_no_index : typeLookup (.type "range") "__index__" = pure none := by rw [typeLookup_type, PySem.builtinLookup_eq_fast]; kernel_rfl
theorem br_no_buffer : typeLookup (.type "range") "__buffer__" = pure none := by rw [typeLookup_type, PySem.builtinLookup_eq_fast]; kernel_rfl
theorem br_split : splitId "range.__len__" = some ("range", "__len__") := by decide +kernel
theorem br_sub_range : isSubtype (.type "range") (.type "range") = pure true := by rw [isSubtype_type]; kernel_rfl
/-- the octets 0 .. n-1 -/
noncomputable def upTo (n : Nat) : Array UInt8 := ((List.range n).map Nat.toUInt8).toArray
theorem upTo_size (n : Nat) : (upTo n).size = n := by simp [upTo]
theorem upTo_succ (n : Nat) : upTo (n + 1) = (upTo n).push n.toUInt8 := by simp [upTo, List.range_succ]
variable {prog : Program} {w : World} {A : Around} {E : Value → Shared → Prop} {s : Shared}
theorem br_loop {R : Result → Shared → Prop} {I S : Addr} {n : Nat} (hh : A.handled = none) (hn : n ≤ 256) (hIS : I ≠ S) :
    ∀ (k i : Nat) (s : Shared), n - i = k → i ≤ n → IsRangeIter s.heap I (i : Int) ((n : Int) - i) 1 → s.heap.get? S = some { cls := .type "bytearray", data := .bytearray (upTo i) } →
      (∀ h' t k', (∀ b o, b ≠ I → b ≠ S → s.heap.get? b = some o → h'.get? b = some o) → R (.ok (.ret (.bytes (upTo n) t))) { s with heap := h', toks := k' }) →
      codeAny (model prog w) A (.builtin "bytes.__new__.loop" ⟨[.type "bytes", .ref I, .ref S], []⟩) R s := by
  intro k
  induction k with
  | zero =>
    intro i s hk hle hit hS hR
    have hin : i = n := by omega
    subst hin
    refine codeAny_builtin F.bm_entry_loop ?_
    rw [Around.under_plainId F.bm_plain_loop _]
    show wpAny _ A.in1 (pyNext (.ref I) >>= _) _ _ s
    refine PySem.wpAny_bind (wpAny_pyNext_range_end hh hit (by omega) fun h' he => ?_)
    have hS' : h'.get? S = some { cls := .type "bytearray", data := .bytearray (upTo i) } := he S _ (Ne.symm hIS) hS
    refine PySem.wpAny_bind ?_
    unfold Builtin.Bytes.payload Builtin.Bytes.payload?
    refine PySem.wpAny_bind (PySem.wpAny_bind (PySem.wpAny_load hS' ?_))
    refine PySem.wpAny_pure (PySem.wpAny_pure ?_)
    refine PySem.wpAny_bind (wpAny_mkBytes ?_ (by rw [upTo_size, PySem.sizeLine_eq]; omega))
    show wpAny _ _ (if (Value.type "bytes" == Value.type "bytes") = true then _ else _) _ _ _
    refine bm_if_true (by decide) ?_
    first
      | exact PySem.wpAny_pure (hR h' _ _ fun b o hb _ e => he b o hb e)
      | exact PySem.wpAny_bind (PySem.wpAny_pure (PySem.wpAny_pure (hR h' _ _ fun b o hb _ e => he b o hb e)))
  | succ k ih =>
    intro i s hk hle hit hS hR
    have hlt : i < n := by omega
    refine codeAny_builtin F.bm_entry_loop ?_
    rw [Around.under_plainId F.bm_plain_loop _]
    show wpAny _ A.in1 (pyNext (.ref I) >>= _) _ _ s
    refine PySem.wpAny_bind (wpAny_pyNext_range_item hit (by omega) fun h' hit' hs => ?_)
    have hS' : h'.get? S = some { cls := .type "bytearray", data := .bytearray (upTo i) } := (hs.2 S (Ne.symm hIS)).trans hS
    refine PySem.wpAny_bind (PySem.wpAny_holding (PySem.wpAny_of_eq (rfl : asIndex (.int (i : Int) s.toks) = pure (i : Int)) ?_))
    refine PySem.wpAny_bind (wpAny_letGo ?_)
    refine bm_if_false (by simp only [Bool.or_eq_false_iff, decide_eq_false_iff_not]; omega) ?_
    refine PySem.wpAny_bind ?_
    have e8 : (i : Int).toNat.toUInt8 = i.toUInt8 := by simp
    rw [e8]
    show wpAny _ _ (updateBytearray S (·.push i.toUInt8)) _ _ _
    unfold updateBytearray
    refine PySem.wpAny_bind (PySem.wpAny_load hS' ?_)
    show wpAny _ _ (update S (Obj.mapBytearray (·.push i.toUInt8)) >>= fun _ => lookBehind S) _ _ _
    refine PySem.wpAny_bind (PySem.wpAny_update hS' ?_)
    have hS₂ : (h'.update S (Obj.mapBytearray (·.push i.toUInt8))).get? S = some { cls := .type "bytearray", data := .bytearray (upTo (i + 1)) } := by
      rw [upTo_succ]
      exact Heap.get?_update_self (Obj.mapBytearray (·.push i.toUInt8)) hS' rfl
    refine wpAny_lookBehind hS₂ ?_ ?_
    · show (if (upTo (i + 1)).size > sizeLine then some "bytearray:memory" else none) = none
      rw [if_neg]
      rw [upTo_size, PySem.sizeLine_eq]
      omega
    · refine PySem.wpAny_pure ⟨plainId_quiet F.bm_plain_loop _, ih (i + 1) { s with heap := h'.update S (Obj.mapBytearray (·.push i.toUInt8)), toks := s.toks + 1 } (by omega) hlt ?_ hS₂ fun h3 t' k' hk3 => ?_⟩
      · have e1 : ((i : Int) + 1) = ((i + 1 : Nat) : Int) := by omega
        have e2 : ((n : Int) - i - 1) = ((n : Int) - ((i + 1 : Nat) : Int)) := by omega
        rw [e1, e2] at hit'
        exact (Heap.get?_update_other _ _ (Ne.symm hIS)).trans hit'
      · exact hR h3 t' k' fun b o hbI hbS e => hk3 b o hbI hbS ((Heap.get?_update_other _ _ (Ne.symm hbS)).trans (hs.extBut b o hbI e))
theorem br_new {r : Addr} {n : Nat} {t u v : Tok} {Q : Value → Shared → Prop} (hh : A.handled = none) (hr : IsRange s.heap r 0 (n : Int) 1 t u v) (hn : n ≤ 256)
    (hQ : ∀ h' t k, (∀ b o, s.heap.get? b = some o → h'.get? b = some o) → Q (.bytes (upTo n) t) { s with heap := h', toks := k }) :
    codeAny (model prog w) A (.call (.builtin "bytes.__new__") ⟨[.type "bytes", .ref r], []⟩) (wants Q E) s := by
  refine codeAny_of_tree ?_
  show wpAny _ A.in1 (do checkBuiltinCall "bytes.__new__" ⟨[.type "bytes", .ref r], []⟩; again (.builtin "bytes.__new__" ⟨[.type "bytes", .ref r], []⟩)) _ _ s
  refine PySem.wpAny_bind (PySem.wpAny_of_eq (F.bm_newCall _) (PySem.wpAny_pure ⟨plainId_quiet F.bm_plain _, codeAny_builtin F.bm_entry ?_⟩))
  rw [Around.under_plainId F.bm_plain _]
  have hT : s.TypeIs (.ref r) "range" := ⟨_, hr, rfl⟩
  have hsz : Builtin.Range.rangeSize 0 (n : Int) 1 = (n : Int) := by rw [rangeSize_nat]; simp
  unfold Builtin.«bytes.__new__»
  refine PySem.wpAny_bind (PySem.wpAny_of_eq (a := true) rfl ?_)
  refine bm_if_false rfl ?_
  refine PySem.wpAny_bind (PySem.wpAny_of_eq F.bm_sub ?_)
  refine bm_if_false rfl ?_
  refine PySem.wpAny_bind (PySem.wpAny_of_eq (F.bm_bind _) ?_)
  refine PySem.wpAny_bind (PySem.wpAny_of_eq (a := ()) rfl ?_)
  refine PySem.wpAny_bind (PySem.wpAny_of_eq (a := ()) rfl ?_)
  refine bm_if_false rfl ?_
  refine PySem.wpAny_bind (wpAny_specialOf hT br_no_bytes ?_)
  refine PySem.wpAny_bind (PySem.wpAny_bind ?_)
  show wpAny _ _ (load r >>= _) _ _ _
  refine PySem.wpAny_bind (PySem.wpAny_load hr ?_)
  refine PySem.wpAny_pure (PySem.wpAny_pure ?_)
  refine bm_if_false rfl ?_
  refine PySem.wpAny_bind (wpAny_specialOf hT br_no_index ?_)
  refine bm_if_true rfl ?_
  first
    | show wpAny _ _ (Builtin.Bytes.buffer? "bytes.__new__" (.ref r) true >>= _) _ _ _
    | (refine PySem.wpAny_bind ?_; show wpAny _ _ (Builtin.Bytes.buffer? "bytes.__new__" (.ref r) true >>= _) _ _ _)
  refine PySem.wpAny_bind ?_
  unfold Builtin.Bytes.buffer?
  refine PySem.wpAny_bind (wpAny_specialOf hT br_no_buffer ?_)
  refine PySem.wpAny_bind (wpAny_specialOf hT br_no_buffer ?_)
  refine PySem.wpAny_pure ?_
  refine PySem.wpAny_bind (PySem.wpAny_tryCatch (wpAny_pyIter_range hr (small_range (by decide) (by decide) (by omega) (by omega)) ?_))
  rw [hsz]
  generalize hh2 : s.heap.push { cls := .type "range_iterator", data := .fields #[rawInt 0, rawInt (n : Int), rawInt 1] } = h2
  have hr₁ : IsRange h2 r 0 (n : Int) 1 t u v := by rw [← hh2]; exact Heap.get?_push_of_some _ hr
  have hI : IsRangeIter h2 s.heap.objs.size 0 (n : Int) 1 := by rw [← hh2]; exact Heap.get?_push_size _ rfl
  have k2 : ∀ b o, s.heap.get? b = some o → h2.get? b = some o := fun b o e => by rw [← hh2]; exact Heap.get?_push_of_some _ e
  have hT₁ : ({ s with heap := h2 } : Shared).TypeIs (.ref r) "range" := ⟨_, hr₁, rfl⟩
  refine PySem.wpAny_bind (PySem.wpAny_holding ?_)
  unfold Builtin.Bytes.lengthHint
  refine PySem.wpAny_bind (wpAny_specialOf hT₁ F.slot_range_len.lookup ?_)
  dsimp only
  rw [br_split]
  dsimp only
  refine PySem.wpAny_bind (wpAny_isInstance hT₁ br_sub_range ?_)
  refine bm_if_false rfl ?_
  refine bm_if_false (by decide +kernel) ?_
  refine bm_if_true rfl ?_
  refine PySem.wpAny_bind (PySem.wpAny_rule ?_)
  refine PySem.wpAny_bind (PySem.wpAny_attempt (call_len_range (s := { s with heap := h2 }) hr₁ hsz (by omega) ?_))
  refine PySem.wpAny_bind (m := asInt? _) (PySem.wpAny_pure ?_)
  have htl : Builtin.Bytes.tooLong ((n : Int).toNat) = false := by unfold Builtin.Bytes.tooLong; simp only [decide_eq_false_iff_not]; rw [PySem.sizeLine_eq]; omega
  refine bm_if_false htl ?_
  refine PySem.wpAny_pure ?_
  refine PySem.wpAny_bind ?_
  unfold Builtin.Bytes.newBytearray
  refine wpAny_newObj_type ?_ (Nat.zero_le _)
  have hlt : s.heap.objs.size < h2.objs.size := Heap.lt_size hI
  have main := br_loop (prog := prog) (w := w) (A := A) (R := wants Q E) (I := s.heap.objs.size) (S := h2.objs.size) (n := n) hh hn (Nat.ne_of_lt hlt)
    n 0 { s with heap := h2.push { cls := .type "bytearray", data := .bytearray #[] }, toks := s.toks + 1 + 1 } rfl (Nat.zero_le _) (by simpa using Heap.get?_push_of_some _ hI) (Heap.get?_push_size _ rfl)
    fun h' t k hk => hQ h' t k fun b o e => hk b o (Nat.ne_of_lt (Heap.lt_size e)) (Nat.ne_of_lt (Nat.lt_trans (Heap.lt_size e) hlt)) (Heap.get?_push_of_some _ (k2 b o e))
  first
    | exact PySem.wpAny_pure ⟨plainId_quiet F.bm_plain_loop _, main⟩
    | exact PySem.wpAny_pure (PySem.wpAny_pure ⟨plainId_quiet F.bm_plain_loop _, main⟩)
theorem call_bytes_range {r : Addr} {n : Nat} {t u v : Tok} {Q : Value → Shared → Prop} (hr : IsRange s.heap r 0 (n : Int) 1 t u v) (hn : n ≤ 256) (hh : A.handled = none)
    (hQ : ∀ h' t k, (∀ b o, s.heap.get? b = some o → h'.get? b = some o) → Q (.bytes (upTo n) t) { s with heap := h', toks := k }) : wpAny (model prog w) A (call (.type "bytes") [.ref r]) Q E s := by
  refine callType_codes (Q₁ := fun obj s₁ => s₁.TypeIs obj "bytes" ∧ Q obj s₁) F.bm_called (F.bm_typeCall _) F.entry_object_init
    (br_new hh hr hn fun h' t k hk => ⟨PySem.W.typeIs_bytes _ _ _, hQ h' t k hk⟩) fun obj s₁ h₁ => ?_
  exact ⟨h₁.1, F.args_object_init_2 obj _, object_init_meets F.bm_called.init.lookup F.bm_called.made (by decide) prog w A.in1 _ s₁ ⟨h₁.1, rfl, h₁.2⟩⟩
end
theorem check_raw {w : World} {p : Program} {loose : List Str} {mean : ExcName → Option Value} {mg mb : Str → Option Value}
    {dp un : Nat} {gd : Option (List Code)} {l : List Env} {base : Heap} {s : Shared} {Q E : Value → Shared → Prop} {x dx : Addr} {k : Str} {wd ht : Int} {P O : Array UInt8} {u0 u1 u2 u3 u4 : Tok} {t1 t2 t3 t4 t5 : Tok}
    (B : Below (Ar dp un gd l) base l s.heap) (X : (Mine.pre.heap_1 w.params).In base) (T : Top p loose mean mg mb base)
    (hx : s.heap.get? x = some (instObj 91 dx)) (hdx : s.heap.get? dx = some (thumbD w t1 t2 t3 t4 t5 k u0 wd u1 ht u2 P u3 O u4))
    (hxb : base.get? x = none) (hdb : base.get? dx = none) (hxl : x ∉ l.filterMap (·.frame)) (hdl : dx ∉ l.filterMap (·.frame)) (hxd : @LT.lt Nat _ dx x)
    (hd : dp + 20 < recursionLimit) (hu : un + 100 < cLine) (hkk : KindOk k) (hP : P.size ≤ 1000000) (hO : O.size ≤ 1000000)
    (hret : ∀ (h' : Heap) (tk' : Nat), SmallOk k wd ht P O → Kp [] s.heap h' → Q .none { s with heap := h', toks := tk' })
    (hraz : ∀ (e : Addr) (h' : Heap) (tk' : Nat), ¬ SmallOk k wd ht P O → Raz base s.heap l [] e h' → E (.ref e) { s with heap := h', toks := tk' }) :
    wpAny (model PySem.Challenge.rw_ok0139_01.row.prog w) (Ar dp un gd l) (call (.ref 109) [.ref x]) Q E s := by
  revert X
  k_fill
  intro X
  refine wpAny_call ?_
  let D : Obj := thumbD w t1 t2 t3 t4 t5 k u0 wd u1 ht u2 P u3 O u4
  have hown : ∀ q ∈ [(x, instObj 91 dx), (dx, D)], s.heap.get? q.1 = some q.2 ∧ base.get? q.1 = none ∧ q.1 ∉ l.filterMap (·.frame) := by
    intro q hq; rcases List.mem_cons.mp hq with rfl | hq; exact ⟨hx, hxb, hxl⟩; cases List.mem_singleton.mp hq; exact ⟨hdx, hdb, hdl⟩
  k_dflt (refine' enter_raw (own := [(x, instObj 91 dx), (dx, D)]) B X T hown ?k6 ?k7 ?k8 ?k9 ?kB ?_ ?c2 ?c3 ?c4 ?c5)
  case k6 => k_is
  case k7 => k_is
  case k8 => exact room0 hd
  case k9 => exact BindsTo.of_eq rfl
  case c5 => decide
  case kB => exact locs rfl
  case c2 => exact rfl
  case c3 => exact rfl
  case c4 => exact rfl
  intro g' L' h' hkp F' N' B' X' T' l1
  clear hx hdx
  (try dsimp only); (try k_fold)
  k_steps
  all_goals (try dsimp only)
  all_goals (have hkn := kinds_ne)
  all_goals (simp only [beq_iff_eq, beq_eq_false_iff_ne] at *)
  all_goals first
    | (refine hraz _ _ _ ?_ (Raz.raw hkp (fun q hq => (hown q hq).1) (fun _ h => h) (by assumption)); clear hown hkp l1; unfold SmallOk; unfold KindOk at hkk; grind)
    | (refine hret _ _ ?_ (Kp.of hkp (fun q hq => (hown q hq).1) (by assumption) (by assumption) (fun _ h => h)); clear hown hkp l1; unfold SmallOk; unfold KindOk at hkk; grind)
theorem check_line {w : World} {p : Program} {loose : List Str} {mean : ExcName → Option Value} {mg mb : Str → Option Value}
    {dp un : Nat} {gd : Option (List Code)} {outer : List Env} {env : Env} {base h₀ : Heap} {L : Addr} {m : Str → Option Value} {news : List (Addr × Obj)} {s : Shared} {Q E : Value → Shared → Prop}
    {x dx : Addr} {k : Str} {wd ht : Int} {P O : Array UInt8} {u0 u1 u2 u3 u4 : Tok} {t1 t2 t3 t4 t5 : Tok}
    (B : Below (Ar dp un gd outer) base outer h₀) (F : Fr h₀ L s.heap m) (N : News h₀ L s.heap news) (X : (Mine.pre.heap_1 w.params).In base) (T : Top p loose mean mg mb base) (hf : env.frame = some L) (hke : env.scope.kind = .function)
    (mx : (x, instObj 91 dx) ∈ news) (mdx : (dx, thumbD w t1 t2 t3 t4 t5 k u0 wd u1 ht u2 P u3 O u4) ∈ news) (hkk : KindOk k) (hxd : @LT.lt Nat _ dx x) (hP : P.size ≤ 1000000) (hO : O.size ≤ 1000000)
    (hd : dp + 21 < recursionLimit) (hu : un + 103 < cLine)
    (hret : ∀ (h' : Heap) (tk' : Nat), SmallOk k wd ht P O → Fr h₀ L h' m → News h₀ L h' news → Q .none { s with heap := h', toks := tk' })
    (hraz : ∀ (e : Addr) (h' : Heap) (tk' : Nat), ¬ SmallOk k wd ht P O → Raz base s.heap (env :: outer) [] e h' → E (.ref e) { s with heap := h', toks := tk' }) :
    wpAny (model PySem.Challenge.rw_ok0139_01.row.prog w) ((Ar dp un gd outer).deeper env) (call (.ref 109) [.ref x]) Q E s := by
  refine check_raw (dp := dp + 1) (un := un + 3) (l := env :: outer) (gd := gd) (below_here B F hf hke) X T (N _ mx).1 (N _ mdx).1 (none_base B (N _ mx).2.2) (none_base B (N _ mdx).2.2) (not_frame B N hf mx) (not_frame B N hf mdx) hxd (room2 hd rfl) (room2 hu rfl) hkk hP hO
    (fun h' tk' so k => hret h' tk' so (F.keeps fun b o e => k b o e (fun z => nomatch z)) fun q hq => ⟨k _ _ (N q hq).1 (fun z => nomatch z), (N q hq).2⟩) hraz

theorem lay_42 : True := by
  k_with "call ref" => (k_here; (with_reducible show wpAny _ _ (call (Value.ref 109) _) _ _ _); k_dflt (refine' check_line ?B₉ ?F₉ ?N₉ ?X₉ ?T₉ ?hf₉ ?hke₉ ?mx₉ ?md₉ ?kk₉ ?xd₉ ?hP₉ ?hO₉ ?hd₉ ?hu₉ ?_ ?_; walk_at "zA"; walk_at "zM"; walk_at "zD"); all_goals first | (intro h'₉ tk'₉ so'₉ F'₉ N'₉; (have sa0 := SmallOk.ng so'₉); (have sa1 := SmallOk.w0 so'₉); (have sa2 := SmallOk.w1 so'₉); (have sa3 := SmallOk.h0 so'₉); (have sa4 := SmallOk.h1 so'₉); k_sweep) | (intro e'₉ h'₉ tk'₉ so'₉ R'₉))
  k_with "subscriptTail" => (k_here; (with_reducible show wpAny _ _ (subscriptTail _ _ (Value.ref 74) (Value.str _ _)) _ _ _); k_dflt (refine' codesAt (by assumption) (by assumption) ?F₉ ?X₉ ?l₉ ?k₉ ?e1₉ ?e2₉ ?e3₉ ?b1₉ ?b2₉ ?b3₉ ?_; (case F₉ => k_asm); (case X₉ => k_asm); (case l₉ => k_is); (case k₉ => k_keys); (case e1₉ => k_is); (case e2₉ => k_is); (case e3₉ => k_is); (case b1₉ => decide); (case b2₉ => decide); (case b3₉ => decide)); intro c'₉ u'₉ clo chi)
  trivial

theorem write_raw {w : World} {p : Program} {loose : List Str} {mean : ExcName → Option Value} {mg mb : Str → Option Value}
    {dp un : Nat} {gd : Option (List Code)} {l : List Env} {base : Heap} {s : Shared} {Q E : Value → Shared → Prop} {x dx : Addr} {k : Str} {wd ht : Int} {P O : Array UInt8} {u0 u1 u2 u3 u4 : Tok} {t1 t2 t3 t4 t5 : Tok}
    (B : Below (Ar dp un gd l) base l s.heap) (X : (Mine.pre.heap_1 w.params).In base) (T : Top p loose mean mg mb base)
    (hx : s.heap.get? x = some (instObj 91 dx)) (hdx : s.heap.get? dx = some (thumbD w t1 t2 t3 t4 t5 k u0 wd u1 ht u2 P u3 O u4))
    (hxb : base.get? x = none) (hdb : base.get? dx = none) (hxl : x ∉ l.filterMap (·.frame)) (hdl : dx ∉ l.filterMap (·.frame)) (hxd : @LT.lt Nat _ dx x)
    (hd : dp + 30 < recursionLimit) (hu : un + 150 < cLine) (hkk : KindOk k) (hP : P.size ≤ 1000000) (hO : O.size ≤ 1000000)
    (hret : ∀ (bs : Array UInt8) (t : Tok) (h' : Heap) (tk' : Nat), SmallOk k wd ht P O → Kp [] s.heap h' → Q (.bytes bs t) { s with heap := h', toks := tk' })
    (hraz : ∀ (e : Addr) (h' : Heap) (tk' : Nat), ¬ SmallOk k wd ht P O → Raz base s.heap l [] e h' → E (.ref e) { s with heap := h', toks := tk' }) :
    wpAny (model PySem.Challenge.rw_ok0139_01.row.prog w) (Ar dp un gd l) (call (.ref 137) [.ref x]) Q E s := by
  revert X
  k_fill
  intro X
  refine wpAny_call ?_
  let D : Obj := thumbD w t1 t2 t3 t4 t5 k u0 wd u1 ht u2 P u3 O u4
  have hown : ∀ q ∈ [(x, instObj 91 dx), (dx, D)], s.heap.get? q.1 = some q.2 ∧ base.get? q.1 = none ∧ q.1 ∉ l.filterMap (·.frame) := by
    intro q hq; rcases List.mem_cons.mp hq with rfl | hq; exact ⟨hx, hxb, hxl⟩; cases List.mem_singleton.mp hq; exact ⟨hdx, hdb, hdl⟩
  k_dflt (refine' enter_raw (own := [(x, instObj 91 dx), (dx, D)]) B X T hown ?k6 ?k7 ?k8 ?k9 ?kB ?_ ?c2 ?c3 ?c4 ?c5)
  case k6 => k_is
  case k7 => k_is
  case k8 => exact room0 hd
  case k9 => exact BindsTo.of_eq rfl
  case c5 => decide
  case kB => exact locs rfl
  case c2 => exact rfl
  case c3 => exact rfl
  case c4 => exact rfl
  intro g' L' h' hkp F' N' B' X' T' l1
  clear hx hdx
  (try dsimp only); (try k_fold)
  k_steps
  all_goals (try dsimp only)
  all_goals first
    | exact hraz _ _ _ (by assumption) (Raz.raw hkp (fun q hq => (hown q hq).1) (by kcj_all) (by assumption))
    | exact hret _ _ _ _ (by assumption) (Kp.of hkp (fun q hq => (hown q hq).1) (by assumption) (by assumption) (by kcj_all))
theorem fresh_raw {h g h' : Heap} {L r : Addr} {o : Obj} {own news : List (Addr × Obj)} (hkp : ∀ b o, h.get? b = some o → b ∉ own.map (·.1) → g.get? b = some o) (N : News g L h' news) (hm : (r, o) ∈ news) (hr : ∀ q ∈ own, q.1 ≠ r) : h.get? r = none := by
  cases e : h.get? r with
  | none => rfl
  | some o' =>
    have := hkp r o' e fun hm => by
      obtain ⟨q, hq, e⟩ := List.mem_map.mp hm
      exact hr q hq e
    rw [(N _ hm).2.2] at this; cases this
section
theorem lay_44_0 : True := by
  k_with "InvPostN" => (dsimp only [InvPostN]; refine Hold.of ?_)
  k_with "pyIter ref" => (k_here; (with_reducible show wpAny _ (Around.deeper _ (envOf (Str.ofString "rows_of") _ _ _ _)) _ _ _ _); refine Hold.of ?_)
  trivial
theorem all_app {α : Type} {P : α → Prop} {a b : List α} (h1 : ∀ p ∈ a, P p) (h2 : ∀ p ∈ b, P p) : ∀ p ∈ a ++ b, P p := fun p hp => (List.mem_append.mp hp).elim (h1 p) (h2 p)
theorem lay_44_1 : True := by
  k_with "zk_all" => (exact all_app (fun p hp => Nat.ne_of_lt ((by assumption : ∀ p ∈ _, p.1 < _) p hp)) (OwnOff.ne (by assumption) (by k_memK)))
  trivial
local macro_rules | `(tactic| k_all) => `(tactic| k_extra "zk_all")
theorem lay_44_2 : True := by
  k_with "call builtin:list.append" => (k_here; (with_reducible show wpAny _ (Around.deeper _ (envOf (Str.ofString "rows_of") _ _ _ _)) _ _ _ _); (with_reducible show wpAny _ _ (call (Value.builtin _) [Value.ref _, _]) _ _ _); k_dflt (refine' append_K ?k1₉ ?k2₉ ?k3₉ ?_ ?z₉; (case k1₉ => k_asm); (case k2₉ => k_asm); (case k3₉ => k_upd); (case z₉ => (rw [PySem.sizeLine_eq]; (try simp only [Array.size_push]); omega)); k_whole); intro h'₉ F'₉ N'₉; (try k_sweep))
  trivial
theorem rows_at {y wd ht : Int} {i j : Nat} {xv : Int} (hy : y = i) (hyb : (i : Int) < ht) (hj : xv = j) (hjb : (j : Int) < wd) : 0 ≤ y * wd + xv ∧ y * wd + xv + 1 ≤ wd * ht := by
  subst hy hj
  have h1 : (0 : Int) ≤ (i : Int) * wd := Int.mul_nonneg (by omega) (by omega)
  have h2 : ((i : Int) + 1) * wd ≤ ht * wd := Int.mul_le_mul_of_nonneg_right (by omega) (by omega)
  rw [Int.add_mul, Int.one_mul, Int.mul_comm ht wd] at h2
  omega
theorem rows_raw {w : World} {p : Program} {loose : List Str} {mean : ExcName → Option Value} {mg mb : Str → Option Value}
    {dp un : Nat} {gd : Option (List Code)} {l : List Env} {base : Heap} {s : Shared} {Q E : Value → Shared → Prop} {x dx : Addr} {k : Str} {wd ht : Int} {P O : Array UInt8} {u0 u1 u2 u3 u4 : Tok} {t1 t2 t3 t4 t5 : Tok}
    (B : Below (Ar dp un gd l) base l s.heap) (X : (Mine.pre.heap_1 w.params).In base) (T : Top p loose mean mg mb base)
    (hx : s.heap.get? x = some (instObj 91 dx)) (hdx : s.heap.get? dx = some (thumbD w t1 t2 t3 t4 t5 k u0 wd u1 ht u2 P u3 O u4))
    (hxb : base.get? x = none) (hdb : base.get? dx = none) (hxl : x ∉ l.filterMap (·.frame)) (hdl : dx ∉ l.filterMap (·.frame)) (hxd : @LT.lt Nat _ dx x)
    (hd : dp + 30 < recursionLimit) (hu : un + 150 < cLine) (hkk : KindOk k) (hP : P.size ≤ 1000000) (hO : O.size ≤ 1000000)
    (hdims : SmallOk k wd ht P O → k ≠ "jpeg" → wd ≤ 3 ∧ ht ≤ 2)
    (hret : ∀ (r : Addr) (arr : Array Value) (n : Nat) (h' : Heap) (tk' : Nat), SmallOk k wd ht P O → k ≠ "jpeg" → Kp [] s.heap h' → h'.get? r = some (W.listOf arr n) → s.heap.get? r = none → Q (.ref r) { s with heap := h', toks := tk' })
    (hraz : ∀ (e : Addr) (h' : Heap) (tk' : Nat), ¬ (SmallOk k wd ht P O ∧ k ≠ "jpeg") → Raz base s.heap l [] e h' → E (.ref e) { s with heap := h', toks := tk' }) :
    wpAny (model PySem.Challenge.rw_ok0139_01.row.prog w) (Ar dp un gd l) (call (.ref 151) [.ref x]) Q E s := by
  revert X
  k_fill
  intro X
  refine wpAny_call ?_
  let D : Obj := thumbD w t1 t2 t3 t4 t5 k u0 wd u1 ht u2 P u3 O u4
  have hown : ∀ q ∈ [(x, instObj 91 dx), (dx, D)], s.heap.get? q.1 = some q.2 ∧ base.get? q.1 = none ∧ q.1 ∉ l.filterMap (·.frame) := by
    intro q hq; rcases List.mem_cons.mp hq with rfl | hq; exact ⟨hx, hxb, hxl⟩; cases List.mem_singleton.mp hq; exact ⟨hdx, hdb, hdl⟩
  k_dflt (refine' enter_raw (own := [(x, instObj 91 dx), (dx, D)]) B X T hown ?k6 ?k7 ?k8 ?k9 ?kB ?_ ?c2 ?c3 ?c4 ?c5)
  case k6 => k_is
  case k7 => k_is
  case k8 => exact room0 hd
  case k9 => exact BindsTo.of_eq rfl
  case c5 => decide
  case kB => exact locs rfl
  case c2 => exact rfl
  case c3 => exact rfl
  case c4 => exact rfl
  intro g' L' h' hkp F' N' B' X' T' l1
  clear hx hdx
  (try dsimp only); (try k_fold)
  k_steps
  all_goals (try dsimp only)
  all_goals first
    | exact hraz _ _ _ (fun z => absurd z.1 (by assumption)) (Raz.raw hkp (fun q hq => (hown q hq).1) (by kcj_all) (by assumption))
    | exact hraz _ _ _ (fun z => z.2 (beq_iff_eq.mp (by assumption))) (Raz.raw hkp (fun q hq => (hown q hq).1) (by kcj_all) (by assumption))
    | skip
  have hnj : k ≠ "jpeg" := by
    rename (k == _) = false => hj
    exact fun z => by rw [z] at hj; exact absurd hj (by decide)
  have hh2 : ht ≤ 2 := (hdims (by assumption) hnj).2
  rename News _ _ _ ((_, W.listOf #[] 0) :: _) => N1
  rename IsRange _ _ _ _ _ _ _ _ => R1
  refine rng_loop (x := "y") ["row", "x", "at", "first"] (fun i nx => ∃ (arr : Array Value) (n : Nat), nx = [(_, W.listOf arr n), (x, instObj 91 dx), (dx, D)] ∧ arr.size = i) rfl R1 (by assumption) (by omega) (by assumption) N1 ⟨#[], 0, rfl, rfl⟩ ?_ ?_
  · clear N1 R1
    rintro i y t m1 nx hq tkq own hy hyb ho ⟨arr, n, rfl, ha⟩ F1 N1
    replace F1 : Fr g' L' _ _ := F1
    replace N1 : News g' L' _ _ := N1
    simp only [List.cons_append, List.nil_append] at N1
    (try dsimp only); (try k_fold)
    k_steps
    rename AllLt _ own => l1x
    have hoa := ktn_ltOf l1x
    have hw3 : wd ≤ 3 := (hdims (by assumption) hnj).1
    rename News _ _ _ ((_, W.listOf #[] 0) :: _) => N2
    rename IsRange _ _ _ _ _ _ _ _ => R2
    refine rng_loop (x := "x") ["at", "first"] (fun j nx => ∃ (arr' : Array Value) (n' : Nat), nx = (_, W.listOf arr' n') :: (_, W.listOf arr n) :: (x, instObj 91 dx) :: (dx, D) :: own ∧ arr'.size = j) rfl R2 (by assumption) (by omega) (by assumption) N2 ⟨#[], 0, rfl, rfl⟩ ?_ ?_
    · clear N2 R2
      rintro j xv t' m2 nx hq' tkq' own' hj hjb ho' ⟨arr', n', rfl, ha'⟩ F2 N2
      replace F2 : Fr g' L' _ _ := F2
      replace N2 : News g' L' _ _ := N2
      simp only [List.cons_append, List.nil_append] at N2
      obtain ⟨at0, at1⟩ := rows_at hy hyb hj hjb
      have cases : ((k == "palette") = true ∧ (O.size : Int) = wd * ht ∧ P.size = 768) ∨ ((k == "palette") = false ∧ (O.size : Int) = 3 * (wd * ht)) := by
        have so : SmallOk k wd ht P O := by assumption
        unfold SmallOk at so
        unfold KindOk at hkk
        cases hp : (k == "palette")
        · right
          have hp' : k ≠ "palette" := by simpa using hp
          refine ⟨rfl, so.2.2.2.2.2.2.1 ?_⟩
          rcases hkk with h | h | h | h
          · exact absurd h hnj
          · exact absurd h hp'
          · exact h
          · exact absurd h so.1
        · left
          have hp' : k = "palette" := by simpa using hp
          exact ⟨rfl, so.2.2.2.2.2.1 hp', by have := so.2.2.2.2.2.2.2.1 hp'; omega⟩
      rcases cases with ⟨kp, ho1, ho2⟩ | ⟨kp, ho1⟩
      all_goals (try dsimp only)
      all_goals (try k_fold)
      all_goals k_steps
      all_goals (try dsimp only)
      all_goals (unfold Hold; refine InvEndN.intro (by assumption) (by assumption) ⟨⟨_, _, rfl, ?_⟩, ?_⟩ ?_ (sub_cons (List.mem_cons_self) (fun p hp => List.mem_cons_of_mem _ ?_)) ?_)
      all_goals first
        | (simp [ha']; done)
        | rfl
        | (simp only [List.mem_cons, List.mem_append] at hp ⊢; (rcases hp with h | h | h | h) <;> simp [h])
        | (intro z h1 h2; first | rfl | (simp [h1]; done) | (simp_all; done))
        | (intro p hp; simp [hp]; done)
    · clear N2 R2
      rintro m3 nx hq3 tkq3 ⟨arr3, n3, rfl, ha3⟩ F3 N3
      replace F3 : Fr g' L' _ _ := F3
      replace N3 : News g' L' _ _ := N3
      (try dsimp only); (try k_fold)
      k_steps
      all_goals (try dsimp only)
      all_goals (unfold Hold; refine InvEndN.intro (by assumption) (by assumption) ⟨⟨_, _, rfl, ?_⟩, ?_⟩ ?_ (sub_cons (List.mem_cons_of_mem _ List.mem_cons_self) (fun p hp => List.mem_cons_of_mem _ (List.mem_cons_of_mem _ ?_))) ?_)
      all_goals first
        | (simp [ha]; done)
        | rfl
        | (simp only [List.mem_cons, List.mem_append, List.not_mem_nil, or_false] at hp ⊢; (rcases hp with h | h) <;> simp [h])
        | (intro z h1 h2; first | rfl | (simp [h1]; done) | (simp_all; done))
        | (intro p hp; simp [hp]; done)
  · clear N1 R1
    rintro m3 nx hq3 tkq3 ⟨arr3, n3, rfl, ha3⟩ F3 N3
    replace F3 : Fr g' L' _ _ := F3
    replace N3 : News g' L' _ _ := N3
    (try dsimp only); (try k_fold)
    k_steps
    all_goals (refine hret _ _ _ _ _ (by assumption) hnj (Kp.of hkp (fun q hq => (hown q hq).1) (by assumption) (by assumption) (by kcj_all)) (News.get (by assumption) (List.Mem.head _)) (fresh_raw hkp (by assumption) (List.Mem.head _) ?_))
    all_goals (intro q hq; rcases List.mem_cons.mp hq with rfl | hq; (first | (show x ≠ _; omega) | (show @Ne Nat x _; omega)); cases List.mem_singleton.mp hq; (first | (show dx ≠ _; omega) | (show @Ne Nat dx _; omega)))
end
def WithOk (k : Str) (wd ht : Int) (P O H : Array UInt8) : Prop := SmallOk k wd ht P O ∧ k = "rgb" ∧ (KBy.picked H none (some 5)).toList = [74, 70, 73, 70, 0] ∧ 14 ≤ H.size
theorem with_raw {w : World} {p : Program} {loose : List Str} {mean : ExcName → Option Value} {mg mb : Str → Option Value}
    {dp un : Nat} {gd : Option (List Code)} {l : List Env} {base : Heap} {s : Shared} {Q E : Value → Shared → Prop} {x dx : Addr} {k : Str} {wd ht : Int} {P O H : Array UInt8} {uh : Tok} {u0 u1 u2 u3 u4 : Tok} {t1 t2 t3 t4 t5 : Tok}
    (B : Below (Ar dp un gd l) base l s.heap) (X : (Mine.pre.heap_1 w.params).In base) (T : Top p loose mean mg mb base)
    (hx : s.heap.get? x = some (instObj 91 dx)) (hdx : s.heap.get? dx = some (thumbD w t1 t2 t3 t4 t5 k u0 wd u1 ht u2 P u3 O u4))
    (hxb : base.get? x = none) (hdb : base.get? dx = none) (hxl : x ∉ l.filterMap (·.frame)) (hdl : dx ∉ l.filterMap (·.frame)) (hxd : @LT.lt Nat _ dx x)
    (hd : dp + 30 < recursionLimit) (hu : un + 150 < cLine) (hkk : KindOk k) (hP : P.size ≤ 1000000) (hO : O.size ≤ 1000000) (hH : H.size ≤ 1000)
    (hret : ∀ (bs : Array UInt8) (t : Tok) (h' : Heap) (tk' : Nat), WithOk k wd ht P O H → Kp [] s.heap h' → Q (.bytes bs t) { s with heap := h', toks := tk' })
    (hraz : ∀ (e : Addr) (h' : Heap) (tk' : Nat), ¬ WithOk k wd ht P O H → Raz base s.heap l [] e h' → E (.ref e) { s with heap := h', toks := tk' }) :
    wpAny (model PySem.Challenge.rw_ok0139_01.row.prog w) (Ar dp un gd l) (call (.ref 144) [.bytes H uh, .ref x]) Q E s := by
  revert X
  k_fill
  intro X
  refine wpAny_call ?_
  let D : Obj := thumbD w t1 t2 t3 t4 t5 k u0 wd u1 ht u2 P u3 O u4
  have hown : ∀ q ∈ [(x, instObj 91 dx), (dx, D)], s.heap.get? q.1 = some q.2 ∧ base.get? q.1 = none ∧ q.1 ∉ l.filterMap (·.frame) := by
    intro q hq; rcases List.mem_cons.mp hq with rfl | hq; exact ⟨hx, hxb, hxl⟩; cases List.mem_singleton.mp hq; exact ⟨hdx, hdb, hdl⟩
  k_dflt (refine' enter_raw (own := [(x, instObj 91 dx), (dx, D)]) B X T hown ?k6 ?k7 ?k8 ?k9 ?kB ?_ ?c2 ?c3 ?c4 ?c5)
  case k6 => k_is
  case k7 => k_is
  case k8 => exact room0 hd
  case k9 => exact BindsTo.of_eq rfl
  case c5 => decide
  case kB => exact locs rfl
  case c2 => exact rfl
  case c3 => exact rfl
  case c4 => exact rfl
  intro g' L' h' hkp F' N' B' X' T' l1
  clear hx hdx
  (try dsimp only); (try k_fold)
  k_steps
  all_goals (try dsimp only)
  all_goals first
    | exact hraz _ _ _ (fun z => absurd z.1 (by assumption)) (Raz.raw hkp (fun q hq => (hown q hq).1) (by kcj_all) (by assumption))
    | exact hraz _ _ _ (fun z => by
        rename ((_ : List UInt8) != _) = true => hb
        exact (bne_iff_ne.mp hb) z.2.2.1) (Raz.raw hkp (fun q hq => (hown q hq).1) (by kcj_all) (by assumption))
    | exact hraz _ _ _ (fun z => by have := z.2.2.2; omega) (Raz.raw hkp (fun q hq => (hown q hq).1) (by kcj_all) (by assumption))
    | exact hraz _ _ _ (fun z => by
        rename (k != _) = true => hb
        exact (bne_iff_ne.mp hb) z.2.1) (Raz.raw hkp (fun q hq => (hown q hq).1) (by kcj_all) (by assumption))
    | (refine hret _ _ _ _ ⟨by assumption, ?_, ?_, ?_⟩ (Kp.of hkp (fun q hq => (hown q hq).1) (by assumption) (by assumption) (by kcj_all))
       · rename (k != _) = false => hb
         simpa using hb
       · rename ((_ : List UInt8) != _) = false => hb
         have hb' : (KBy.picked H none (some (5 : Int))).toList = [74, 70, 73, 70, 0] := by
           have := hb
           rw [bne_eq_false_iff_eq] at this
           exact this
         exact hb'
       · omega)
theorem let_raw {w : World} {p : Program} {loose : List Str} {mean : ExcName → Option Value} {mg mb : Str → Option Value}
    {dp un : Nat} {gd : Option (List Code)} {l : List Env} {base : Heap} {s : Shared} {Q E : Value → Shared → Prop} {x dx : Addr} {k : Str} {wd ht : Int} {P O : Array UInt8} {u0 u1 u2 u3 u4 : Tok} {t1 t2 t3 t4 t5 : Tok}
    (B : Below (Ar dp un gd l) base l s.heap) (X : (Mine.pre.heap_1 w.params).In base) (T : Top p loose mean mg mb base)
    (hx : s.heap.get? x = some (instObj 91 dx)) (hdx : s.heap.get? dx = some (thumbD w t1 t2 t3 t4 t5 k u0 wd u1 ht u2 P u3 O u4))
    (hxb : base.get? x = none) (hdb : base.get? dx = none) (hxl : x ∉ l.filterMap (·.frame)) (hdl : dx ∉ l.filterMap (·.frame)) (hxd : @LT.lt Nat _ dx x)
    (hd : dp + 30 < recursionLimit) (hu : un + 150 < cLine) (hkk : KindOk k) (hP : P.size ≤ 1000000) (hO : O.size ≤ 1000000)
    (hret : ∀ (b : Bool) (h' : Heap) (tk' : Nat), (b = true ↔ SmallOk k wd ht P O) → Kp [] s.heap h' → Q (.bool b) { s with heap := h', toks := tk' }) :
    wpAny (model PySem.Challenge.rw_ok0139_01.row.prog w) (Ar dp un gd l) (call (.ref 193) [.ref x]) Q E s := by
  revert X
  k_fill
  intro X
  refine wpAny_call ?_
  let D : Obj := thumbD w t1 t2 t3 t4 t5 k u0 wd u1 ht u2 P u3 O u4
  have hown : ∀ q ∈ [(x, instObj 91 dx), (dx, D)], s.heap.get? q.1 = some q.2 ∧ base.get? q.1 = none ∧ q.1 ∉ l.filterMap (·.frame) := by
    intro q hq; rcases List.mem_cons.mp hq with rfl | hq; exact ⟨hx, hxb, hxl⟩; cases List.mem_singleton.mp hq; exact ⟨hdx, hdb, hdl⟩
  k_dflt (refine' enter_raw (own := [(x, instObj 91 dx), (dx, D)]) B X T hown ?k6 ?k7 ?k8 ?k9 ?kB ?_ ?c2 ?c3 ?c4 ?c5)
  case k6 => k_is
  case k7 => k_is
  case k8 => exact room0 hd
  case k9 => exact BindsTo.of_eq rfl
  case c5 => decide
  case kB => exact locs rfl
  case c2 => exact rfl
  case c3 => exact rfl
  case c4 => exact rfl
  intro g' L' h' hkp F' N' B' X' T' l1
  clear hx hdx
  (try dsimp only); (try k_fold)
  k_steps
  all_goals (try dsimp only)
  all_goals (have hkn := kinds_ne)
  all_goals (refine hret _ _ _ ?_ (Kp.of hkp (fun q hq => (hown q hq).1) (by assumption) (by assumption) (by kcj_all)))
  all_goals (clear hown hkp l1 hxl hdl)
  all_goals (simp only [List.any_cons, List.any_nil, Bool.or_eq_true, Bool.or_false, beq_iff_eq, beq_eq_false_iff_ne, bne_iff_ne, bne_eq_false_iff_eq, Bool.or_eq_false_iff, Bool.false_eq_true, ne_eq] at *)
  all_goals (unfold SmallOk; unfold KindOk at hkk)
  all_goals first | grind
section
variable {prog : Program} {w : World} {A₀ : Around} {E : Value → Shared → Prop} {s' : Shared} {base g G : Heap} {outer : List Env} {L a e : Addr} {m : Str → Option Value} {name : Str} {scope : Scope} {cd : Value}
  {b₀ : Stmt} {suite : List Stmt} {pos np : Pos} {rest : List ExceptHandler} {Q : Flow → Shared → Prop} {KF : Frag}
  {p : Program} {loose : List Str} {mean : ExcName → Option Value} {mg mb : Str → Option Value} {x : Str}
/-- a SegmentError is caught: the ground below the frame has been turned in its frames' slots alone -/
theorem caught_raz (R : Raz base G (envOf name scope L a cd :: outer) [] e s'.heap) (F : Fr g L G m) (K : Below A₀ base outer g) (XB : KF.In base) (TB : Top p loose mean mg mb base)
    (ex : nsIn KF mainGlobals x = some (some (.ref 44))) (q : ktsIn KF 44 "BaseException" = true)
    (k : ∀ h' g', KtsTurn (outer.filterMap (·.frame)) g g' → Fr g' L h' m → News g' L h' [] → Below A₀ base outer g' → KF.In g' → Top p loose mean mg mb g' →
      wpAny (model prog w) ((A₀.deeper (envOf name scope L a cd)).mark (some (.ref e))) (execs (b₀ :: suite) (envOf name scope L a cd)) Q E { s' with heap := h' })
    (hk : scope.kind = .function := by rfl) (hx : (envOf name scope L a cd).kindOf x = some .globalImplicit := by rfl) (hd : (x == ("__debug__" : Str)) = false := by decide)
    (hE : PassesOwnAt (model prog w) ((A₀.deeper (envOf name scope L a cd)).mark (some (.ref e))) (A₀.deeper (envOf name scope L a cd)) (envOf name scope L a cd) E := by passes_own) :
    wpAny (model prog w) (A₀.deeper (envOf name scope L a cd)) (noteFrame (.ref e) (envOf name scope L a cd))
      (fun _ s₂ => wpAny (model prog w) (A₀.deeper (envOf name scope L a cd)) (setFlight (.ref e) none) (fun _ s₃ =>
        wpAny (model prog w) (A₀.deeper (envOf name scope L a cd)) (handleBy (.ref e) (envOf name scope L a cd) (.ExceptHandler (some (.Name x np)) none (b₀ :: suite) pos :: rest)) Q E s₃) E s₂) E s' := by
  obtain ⟨⟨B, a0, hB, hBG, hl, hfl⟩, hsm⟩ := R
  refine wpAny_looks_onW (Around.frames_deeper K.stack) rfl hfl fun h₄ hheld₄ hsm₄ => ?_
  refine wpAny_landsW hheld₄ fun h₅ hheld hsm₅' => ?_
  have hsm₅ := hsm₄.trans hsm₅'
  obtain ⟨g₅, T₅, F₅, K₅⟩ := kts_ground K F hBG hheld.1 (hsm.trans hsm₅)
  have X₅ : KF.In g₅ := XB.keeps K₅.stays
  have P₅ : TopRead p loose mg mb g₅ := topRead_of (TB.keeps K₅.stays)
  obtain ⟨ob, hob, hobc⟩ := hheld.there
  obtain ⟨nm, q', N, bs, bm, hdct, sn, sub, ab, col, dd, k0, k1, k2, k3, k5, newId, hC, hbase, hbT⟩ := kts_cls X₅ q
  have hC₅ := F₅.keep _ _ hC
  refine wpAny_handleBy_cons (codeAny_handlers_test (name_K F₅ X₅ P₅ ex ?_ hk hx hd)) (by intro q; cases q)
  refine wpAny_excMatches_sub_self hC₅ hob hobc hbase (codeAny_handlers_suite ?_)
  refine lands_againW hheld fun h₆ hfl₆ hsm₆ => ?_
  obtain ⟨g₆, T₆, F₆, K₆⟩ := kts_ground K F hBG hfl₆.1 ((hsm.trans hsm₅).trans hsm₆)
  exact wpAny_passesOwnAt hE (k h₆ g₆ T₆ F₆ (fun _ hq => nomatch hq) K₆ (XB.keeps K₆.stays) (TB.keeps K₆.stays))
end
/-- all stands, the frames of l up to their slots -/
def KpF (l : List Env) (h h' : Heap) : Prop := (∀ b o, h.get? b = some o → b ∉ l.filterMap (·.frame) → h'.get? b = some o) ∧ ∀ b o, h.get? b = some o → b ∈ l.filterMap (·.frame) → ∃ sl, h'.get? b = some { o with slots := sl }
theorem KpF.of_kp {l : List Env} {h h' : Heap} (k : Kp [] h h') : KpF l h h' := ⟨fun b o e _ => k b o e (fun z => nomatch z), fun b o e _ => ⟨o.slots, k b o e (fun z => nomatch z)⟩⟩
theorem KpF.of_turn {l : List Env} {h g g' h' : Heap} {L : Addr} {m : Str → Option Value} (hkp : ∀ b o, h.get? b = some o → b ∉ ([] : List (Addr × Obj)).map (·.1) → g.get? b = some o) (T : KtsTurn (l.filterMap (·.frame)) g g') (F : Fr g' L h' m) : KpF l h h' := by
  refine ⟨fun b o e nb => F.keep b o (T.other b o (hkp b o e (fun z => nomatch z)) nb), fun b o e hb => ?_⟩
  obtain ⟨sl, hs⟩ := T.frame b o (hkp b o e (fun z => nomatch z)) hb
  exact ⟨sl, F.keep _ _ hs⟩
section
theorem lay_50_0 : True := by
  k_with "callWith ref" => (k_here; refine callWith_F0 (by assumption) ?_; (try dsimp only [List.nil_append, List.cons_append]))
  trivial
/-- what a deed answers, told of any heap that holds what stood when _law_result was called -/
def DeedOk (M : Model) (base : Heap) (dp un : Nat) (gd : Option (List Code)) (l : List Env) (s : Shared) (d : Addr) (Pv : Value → List (Addr × Obj) → Prop) (Pr : Prop) : Prop :=
  ∀ (env : Env) (h₂ : Heap) (tk : Nat) (Q E : Value → Shared → Prop), env.scope.kind = .function → Below (Ar (dp + 1) (un + 3) gd (env :: l)) base (env :: l) h₂ → (∀ b o, s.heap.get? b = some o → h₂.get? b = some o) →
    (∀ b ∈ env.frame, s.heap.get? b = none) →
    (∀ v nx h' tk', Pv v nx → Kp [] h₂ h' → (∀ q ∈ nx, h'.get? q.1 = some q.2 ∧ h₂.get? q.1 = none) → Q v { s with heap := h', toks := tk' }) → (∀ e h' tk', Pr → Raz base h₂ (env :: l) [] e h' → E (.ref e) { s with heap := h', toks := tk' }) →
    wpAny M (Ar (dp + 1) (un + 3) gd (env :: l)) (call (.ref d) []) Q E { s with heap := h₂, toks := tk }
theorem result_raw {w : World} {p : Program} {loose : List Str} {mean : ExcName → Option Value} {mg mb : Str → Option Value}
    {dp un : Nat} {gd : Option (List Code)} {l : List Env} {base : Heap} {s : Shared} {Q E : Value → Shared → Prop} {d : Addr} {Pv : Value → List (Addr × Obj) → Prop} {Pr : Prop}
    (B : Below (Ar dp un gd l) base l s.heap) (X : (Mine.pre.heap_1 w.params).In base) (T : Top p loose mean mg mb base)
    (hd : dp + 30 < recursionLimit) (hu : un + 150 < cLine)
    (hfd : FnAt d s.heap) (deed : DeedOk (model PySem.Challenge.rw_ok0139_01.row.prog w) base dp un gd l s d Pv Pr)
    (hret : ∀ (v : Value) (nx : List (Addr × Obj)) (h' : Heap) (tk' : Nat), Pv v nx → Kp [] s.heap h' → (∀ q ∈ nx, h'.get? q.1 = some q.2 ∧ s.heap.get? q.1 = none) → Q v { s with heap := h', toks := tk' })
    (hraz : ∀ (t : Tok) (h' : Heap) (tk' : Nat), Pr → KpF l s.heap h' → Q (.str "raised" t) { s with heap := h', toks := tk' }) :
    wpAny (model PySem.Challenge.rw_ok0139_01.row.prog w) (Ar dp un gd l) (call (.ref 172) [.ref d]) Q E s := by
  revert X
  k_fill
  intro X
  refine wpAny_call ?_
  k_dflt (refine' enter_raw (own := []) B X T (fun _ hq => nomatch hq) ?k6 ?k7 ?k8 ?k9 ?kB ?_ ?c2 ?c3 ?c4 ?c5)
  case k6 => k_is
  case k7 => k_is
  case k8 => exact room0 hd
  case k9 => exact BindsTo.of_eq rfl
  case c5 => decide
  case kB => exact locs rfl
  case c2 => exact rfl
  case c3 => exact rfl
  case c4 => exact rfl
  intro g' L' h' hkp F' N' B' X' T' l1
  have hall : ∀ b o, s.heap.get? b = some o → h'.get? b = some o := fun b o e => F'.keep b o (hkp b o e (fun z => nomatch z))
  have hfd' : FnAt d h' := by obtain ⟨oc, od, fd, sl, e⟩ := hfd; exact ⟨oc, od, fd, sl, hall _ _ e⟩
  have hL' : s.heap.get? L' = none := by
    cases e : s.heap.get? L' with
    | none => rfl
    | some o => exact absurd (kts_self F') (by rw [hkp _ _ e (fun z => nomatch z)]; simp)
  (try dsimp only); (try k_fold)
  k_steps
  refine deed _ _ _ _ _ rfl (below_here B' F' rfl rfl) hall (fun b hb => by cases hb; exact hL') ?_ ?_
  · intro v nx h₃ tk₃ hv k₃ hnx
    have F₃ := F'.keeps (fun b o e => k₃ b o e (fun z => nomatch z))
    have N₃ : News g' L' h₃ [] := fun _ hq => nomatch hq
    k_steps
    all_goals (try dsimp only [LeaveO])
    exact hret _ nx _ _ hv (fun b o e _ => k₃ b o (hall b o e) (fun z => nomatch z)) fun q hq => ⟨(hnx q hq).1, by cases z : s.heap.get? q.1 with | none => rfl | some o => (have := (hnx q hq).2; rw [hall _ _ z] at this; cases this)⟩
  · intro e h₃ tk₃ hpr R₃
    refine caught_raz R₃ F' B' (by assumption) (by assumption) ?ex ?q ?_
    case ex => k_is
    case q => kts_isx
    intro h₄ g₄ T₄ F₄ N₄ B₄ X₄ P₄
    k_steps
    exact hraz _ _ _ hpr (KpF.of_turn hkp T₄ F₄)
end
theorem KpF.up {l : List Env} {h h' : Heap} (k : KpF l h h') : h.UpToSlots h' := fun b o e _ => by
  by_cases hb : b ∈ l.filterMap (·.frame)
  · exact k.2 b o e hb
  · exact ⟨o.slots, k.1 b o e hb⟩
/-- the ground of a frame behind a call that has turned the frames' slots -/
theorem turned {A₀ : Around} {base h₀ h h' : Heap} {outer : List Env} {env : Env} {L : Addr} {m : Str → Option Value} {news : List (Addr × Obj)} (B : Below A₀ base outer h₀) (F : Fr h₀ L h m) (N : News h₀ L h news) (hf : env.frame = some L) (k : KpF (env :: outer) h h') :
    ∃ h₁, KtsTurn (outer.filterMap (·.frame)) h₀ h₁ ∧ Below A₀ base outer h₁ ∧ Fr h₁ L h' m ∧ News h₁ L h' news := by
  have mem : ∀ b, b ∈ (env :: outer).filterMap (·.frame) → b = L ∨ b ∈ outer.filterMap (·.frame) := fun b hm => by
    obtain ⟨e', he, hf'⟩ := List.mem_filterMap.mp hm
    rcases List.mem_cons.mp he with rfl | he
    · exact .inl (Option.some.inj (hf.symm.trans hf')).symm
    · exact .inr (List.mem_filterMap.mpr ⟨e', he, hf'⟩)
  have memo : ∀ b, b ∈ outer.filterMap (·.frame) → b ∈ (env :: outer).filterMap (·.frame) := fun b hm => by
    obtain ⟨e', he, hf'⟩ := List.mem_filterMap.mp hm
    exact List.mem_filterMap.mpr ⟨e', .tail _ he, hf'⟩
  obtain ⟨T, S⟩ := kts_turn_at (h := h') (fs := outer.filterMap (·.frame)) (g := h₀)
    (fun b hb => by
      obtain ⟨_, o, ho, _⟩ := B.frames.mem hb
      exact ⟨o, ho⟩)
    (fun b o e nm => k.1 b o (F.keep b o e) fun hm => by
      rcases mem b hm with z | z
      · rw [z, kts_self F] at e; cases e
      · exact nm z)
    (fun b o e hm => k.2 b o (F.keep b o e) (memo b hm))
  refine ⟨_, T, ⟨B.stack, fun b o e => T.other b o (B.stays b o e) (fun hm => by rw [(B.frames.mem hm).1] at e; cases e), B.frames.of_keeps fun b o e _ => ?_⟩, ⟨k.up.ns F.ns, S, by rw [T.size]; exact F.above⟩, fun q hq => ⟨?_, (N q hq).2.1, T.none_ _ (N q hq).2.2⟩⟩
  · obtain ⟨sl, hs⟩ := T.up e
    exact ⟨_, hs, rfl⟩
  · exact k.1 _ _ (N q hq).1 (not_frame (o := q.2) B N hf hq)
theorem result_line {w : World} {p : Program} {loose : List Str} {mean : ExcName → Option Value} {mg mb : Str → Option Value}
    {dp un : Nat} {gd : Option (List Code)} {outer : List Env} {env : Env} {base h₀ : Heap} {L : Addr} {m : Str → Option Value} {news : List (Addr × Obj)} {s : Shared} {Q E : Value → Shared → Prop} {d : Addr} {Pv : Value → List (Addr × Obj) → Prop} {Pr : Prop}
    (B : Below (Ar dp un gd outer) base outer h₀) (F : Fr h₀ L s.heap m) (N : News h₀ L s.heap news) (X : (Mine.pre.heap_1 w.params).In base) (T : Top p loose mean mg mb base) (hf : env.frame = some L) (hke : env.scope.kind = .function)
    (hfd : FnAt d s.heap) (hd : dp + 40 < recursionLimit) (hu : un + 200 < cLine)
    (deed : DeedOk (model PySem.Challenge.rw_ok0139_01.row.prog w) base (dp + 1) (un + 3) gd (env :: outer) s d Pv Pr)
    (hret : ∀ (v : Value) (nx : List (Addr × Obj)) (h' : Heap) (tk' : Nat), Pv v nx → (∀ q ∈ news, ∀ z ∈ nx, q.1 ≠ z.1) → News h₀ L h' nx → Fr h₀ L h' m → News h₀ L h' news → Q v { s with heap := h', toks := tk' })
    (hraz : ∀ (t : Tok) (h₁ h' : Heap) (tk' : Nat), Pr → KtsTurn (outer.filterMap (·.frame)) h₀ h₁ → Below (Ar dp un gd outer) base outer h₁ → (Mine.pre.heap_1 w.params).In h₁ → Top p loose mean mg mb h₁ → Fr h₁ L h' m → News h₁ L h' news → Q (.str "raised" t) { s with heap := h', toks := tk' }) :
    wpAny (model PySem.Challenge.rw_ok0139_01.row.prog w) ((Ar dp un gd outer).deeper env) (call (.ref 172) [.ref d]) Q E s := by
  refine result_raw (dp := dp + 1) (un := un + 3) (l := env :: outer) (gd := gd) (below_here B F hf hke) X T (room2 hd rfl) (room2 hu rfl) hfd deed ?_ ?_
  · intro v nx h' tk' hv k hnx
    have k' : ∀ b o, s.heap.get? b = some o → h'.get? b = some o := fun b o e => k b o e (fun z => nomatch z)
    refine hret v nx h' tk' hv (fun q hq z hz e => ?_) (fun q hq => ⟨(hnx q hq).1, fun e => ?_, ?_⟩) (F.keeps k') (fun q hq => ⟨k' _ _ (N q hq).1, (N q hq).2⟩)
    · have := (hnx z hz).2; rw [← e, (N q hq).1] at this; cases this
    · obtain ⟨oL, _, _, hL, _⟩ := F.ns
      have := (hnx q hq).2; rw [e, hL] at this; cases this
    · cases e : h₀.get? q.1 with
      | none => rfl
      | some o => have := (hnx q hq).2; rw [F.keep _ _ e] at this; cases this
  · intro t h' tk' hp k
    obtain ⟨h₁, T₁, B₁, F₁, N₁⟩ := turned B F N hf k
    exact hraz t h₁ h' tk' hp T₁ B₁ (X.keeps B₁.stays) (T.keeps B₁.stays) F₁ N₁
/-- all but own stands, the frames of l up to their slots -/
def KpG (own : List Addr) (l : List Env) (h h' : Heap) : Prop := ∀ b o, h.get? b = some o → b ∉ own → (b ∉ l.filterMap (·.frame) → h'.get? b = some o) ∧ (b ∈ l.filterMap (·.frame) → ∃ sl, h'.get? b = some { o with slots := sl })
theorem KpG.of {h g g₁ h' : Heap} {L : Addr} {m : Str → Option Value} {own news : List (Addr × Obj)} {ks : List Addr} {l : List Env} (hkp : ∀ b o, h.get? b = some o → b ∉ own.map (·.1) → g.get? b = some o) (hown : ∀ q ∈ own, h.get? q.1 = some q.2 ∧ q.1 ∉ l.filterMap (·.frame))
    (T : KtsTurn (l.filterMap (·.frame)) g g₁) (F : Fr g₁ L h' m) (N : News g₁ L h' news) (hsub : ∀ q ∈ own, q.1 ∈ ks ∨ q ∈ news) : KpG ks l h h' := fun b o e nb => by
  by_cases hb : b ∈ own.map (·.1)
  · obtain ⟨q, hq, rfl⟩ := List.mem_map.mp hb
    rw [(hown q hq).1] at e; cases e
    rcases hsub q hq with z | z
    · exact absurd z nb
    · exact ⟨fun _ => (N q z).1, fun hf => absurd hf (hown q hq).2⟩
  · refine ⟨fun nf => F.keep _ _ (T.other b o (hkp b o e hb) nf), fun hf => ?_⟩
    obtain ⟨sl, hs⟩ := T.frame b o (hkp b o e hb) hf
    exact ⟨sl, F.keep _ _ hs⟩
/-- the ground of a frame behind a call that has turned own and the frames' slots -/
theorem turnedG {A₀ : Around} {base h₀ h h' : Heap} {outer : List Env} {env : Env} {L : Addr} {m : Str → Option Value} {news : List (Addr × Obj)} {own : List Addr} (B : Below A₀ base outer h₀) (F : Fr h₀ L h m) (N : News h₀ L h news) (hf : env.frame = some L) (k : KpG own (env :: outer) h h')
    (hon : ∀ a ∈ own, ∃ o, (a, o) ∈ news) :
    ∃ h₁, KtsTurn (outer.filterMap (·.frame)) h₀ h₁ ∧ Below A₀ base outer h₁ ∧ Fr h₁ L h' m ∧ ∀ news' : List (Addr × Obj), (∀ q ∈ news', (q ∈ news ∧ q.1 ∉ own) ∨ (q.1 ∈ own ∧ h'.get? q.1 = some q.2)) → News h₁ L h' news' := by
  have hno : ∀ a ∈ own, h₀.get? a = none ∧ a ≠ L := fun a ha => by
    obtain ⟨o, ho⟩ := hon a ha
    exact ⟨(N _ ho).2.2, (N _ ho).2.1⟩
  have mem : ∀ b, b ∈ (env :: outer).filterMap (·.frame) → b = L ∨ b ∈ outer.filterMap (·.frame) := fun b hm => by
    obtain ⟨e', he, hf'⟩ := List.mem_filterMap.mp hm
    rcases List.mem_cons.mp he with rfl | he
    · exact .inl (Option.some.inj (hf.symm.trans hf')).symm
    · exact .inr (List.mem_filterMap.mpr ⟨e', he, hf'⟩)
  have memo : ∀ b, b ∈ outer.filterMap (·.frame) → b ∈ (env :: outer).filterMap (·.frame) := fun b hm => by
    obtain ⟨e', he, hf'⟩ := List.mem_filterMap.mp hm
    exact List.mem_filterMap.mpr ⟨e', .tail _ he, hf'⟩
  have memL : L ∈ (env :: outer).filterMap (·.frame) := List.mem_filterMap.mpr ⟨env, .head _, hf⟩
  have nown : ∀ b o, h₀.get? b = some o → b ∉ own := fun b o e ha => by rw [(hno b ha).1] at e; cases e
  obtain ⟨T, S⟩ := kts_turn_at (h := h') (fs := outer.filterMap (·.frame)) (g := h₀)
    (fun b hb => by
      obtain ⟨_, o, ho, _⟩ := B.frames.mem hb
      exact ⟨o, ho⟩)
    (fun b o e nm => (k b o (F.keep b o e) (nown b o e)).1 fun hm => by
      rcases mem b hm with z | z
      · rw [z, kts_self F] at e; cases e
      · exact nm z)
    (fun b o e hm => (k b o (F.keep b o e) (nown b o e)).2 (memo b hm))
  have hns : h'.Ns L m := by
    obtain ⟨oL, es, ep, hL, hLd, hLk, hLf⟩ := F.ns
    obtain ⟨sl, hs⟩ := (k L oL hL (fun ha => (hno L ha).2 rfl)).2 memL
    exact ⟨_, es, ep, hs, hLd, hLk, hLf⟩
  refine ⟨_, T, ⟨B.stack, fun b o e => T.other b o (B.stays b o e) (fun hm => by rw [(B.frames.mem hm).1] at e; cases e), B.frames.of_keeps fun b o e _ => ?_⟩, ⟨hns, S, by rw [T.size]; exact F.above⟩, fun news' hq' q hq => ?_⟩
  · obtain ⟨sl, hs⟩ := T.up e
    exact ⟨_, hs, rfl⟩
  · rcases hq' q hq with ⟨h1, h2⟩ | ⟨h1, h2⟩
    · exact ⟨(k _ _ (N q h1).1 h2).1 (not_frame (o := q.2) B N hf h1), (N q h1).2.1, T.none_ _ (N q h1).2.2⟩
    · exact ⟨h2, (hno _ h1).2, T.none_ _ (hno _ h1).1⟩
theorem enter_lam {w : World} {dp un : Nat} {gd : Option (List Code)} {l : List Env} {s : Shared} {base : Heap} {K : Frag} {p : Program} {loose : List Str} {mean : ExcName → Option Value} {mg mb : Str → Option Value} {own : List (Addr × Obj)}
    {prog : Program} {R : Result → Shared → Prop} {name qual : Str} {params : Arguments} {body : Expr} {scope : Scope} {cl : List (Str × Addr)} {pm ctv : Value} {c' f : Addr} {args : Args} {binds : List (Str × Value)}
    (B : Below (Ar dp un gd l) base l s.heap) (X₀ : K.In base) (T : Top p loose mean mg mb base)
    (hown : ∀ q ∈ own, s.heap.get? q.1 = some q.2 ∧ base.get? q.1 = none ∧ q.1 ∉ l.filterMap (·.frame))
    (ho : s.heap.get? f = some (kla_obj name qual params body scope cl pm c' ctv)) (hcd : s.heap.CodeRec (.ref c') qual) (hroom : dp < recursionLimit)
    (hbind : bindArgs (kla_fn name qual params body scope cl pm (.ref c') ctv) args = pure binds) (hloc : ∀ y ∈ binds, scope.names.lookup y.1 = some .local)
    (h : ∀ g L' h₁, (∀ b o, s.heap.get? b = some o → b ∉ own.map (·.1) → g.get? b = some o) → Fr g L' h₁ (fun y => binds.reverse.lookup y) → News g L' h₁ own → Below (Ar dp un gd l) base l g → K.In g → Top p loose mean mg mb g → (∀ q ∈ own, q.1 < L') →
      wpAny (model prog w) ((Ar dp un gd l).deeper (envX qual scope L' f (.ref c') cl)) (eval body (envX qual scope L' f (.ref c') cl))
        (fun v s' => LeaveO R v s')
        (fun e s' => wpAny (model prog w) ((Ar dp un gd l).deeper (envX qual scope L' f (.ref c') cl)) (leaving (envX qual scope L' f (.ref c') cl) e) (fun _ s'' => R (.error e) s'') (fun e' s'' => R (.error e') s'') s')
        { s with heap := h₁, toks := s.toks + binds.length })
    (hco : scope.isCoroutine = false) (hgen : scope.isGenerator = false) (hk : scope.kind = .function)
    (hcell : ∀ x ∈ scope.names, x.2 ≠ .cell) : codeAny (model prog w) (Ar dp un gd l) (.call (.ref f) args) R s := by
  have keep : ∀ b o, s.heap.get? b = some o → b ∉ own.map (·.1) → (hideAll s.heap (own.map (·.1))).get? b = some o := fun b o e nb => hideAll_get _ e nb
  have st : base.StaysIn (hideAll s.heap (own.map (·.1))) := fun b o e => keep b o (B.stays b o e) fun q => by
    obtain ⟨x, hx, rfl⟩ := List.mem_map.mp q
    rw [(hown x hx).2.1] at e; cases e
  have B' : Below (Ar dp un gd l) base l (hideAll s.heap (own.map (·.1))) := ⟨B.stack, st, funFrames_hideAll B.frames fun env he b hb hf => by
    obtain ⟨x, hx, rfl⟩ := List.mem_map.mp hb
    exact (hown x hx).2.2 (List.mem_filterMap.mpr ⟨env, he, hf⟩)⟩
  refine kla_callFunE hroom ho rfl hco hgen rfl hcd ?_
  rw [hbind]
  refine wpAny_pure (wpAny_newFunctionEnv hcell hloc (fun h₁ hns hsb => ⟨(T.nolimit.keeps B.stays).fresh _ hsb, ?_⟩) hk)
  show codeAny _ _ (.expr body (envX qual scope s.heap.objs.size f (.ref c') cl)) _ _
  have hk₁ : ∀ b o, s.heap.get? b = some o → h₁.get? b = some o := fun b o e => hsb.extBut b o (Nat.ne_of_lt (Heap.lt_size e)) (Heap.get?_push_of_some _ e)
  exact kla_codeExpr (h _ s.heap.objs.size h₁ keep ⟨hns, fun b o e => hk₁ b o (of_hideAll _ e), Nat.le_of_eq (hideAll_size _ _)⟩
    (fun q hq => ⟨hk₁ _ _ (hown q hq).1, Nat.ne_of_lt (Heap.lt_size (hown q hq).1), hideAll_none _ (List.mem_map_of_mem hq)⟩) B' (X₀.keeps st) (T.keeps st) (fun q hq => Heap.lt_size (hown q hq).1))
theorem enter_rawC {w : World} {dp un : Nat} {gd : Option (List Code)} {l : List Env} {s : Shared} {base : Heap} {K : Frag} {p : Program} {loose : List Str} {mean : ExcName → Option Value} {mg mb : Str → Option Value} {own : List (Addr × Obj)}
    {prog : Program} {R : Result → Shared → Prop} {name qual : Str} {params : Arguments} {body : List Stmt} {scope : Scope} {dV kV doc pm cdv ct oc : Value} {an od : Option Addr} {osl : Array (Option Value)} {f : Addr} {args : Args} {binds : List (Str × Value)}
    (B : Below (Ar dp un gd l) base l s.heap) (X₀ : K.In base) (T : Top p loose mean mg mb base)
    (hown : ∀ q ∈ own, s.heap.get? q.1 = some q.2 ∧ base.get? q.1 = none ∧ q.1 ∉ l.filterMap (·.frame))
    (ho : K.lookup f = some ⟨oc, od, .func (fnOf name qual params body scope dV kV doc pm an cdv ct), osl⟩) (hcd : codeIn K cdv qual = true) (hroom : dp < recursionLimit)
    (hbind : BindsTo s (fnOf name qual params body scope dV kV doc pm an cdv ct) args binds) (hkind : (binds.all fun y => scope.names.lookup y.1 == some .local || scope.names.lookup y.1 == some .cell) = true)
    (hnd : ((cellsFrom 0 scope.names []).map (·.1)).Nodup)
    (h : ∀ g L' h₁ tk cells, (∀ b o, s.heap.get? b = some o → b ∉ own.map (·.1) → g.get? b = some o) → Fr g L' h₁ (bindL (envOfC qual scope L' f cdv).kindOf binds fun _ => none) → News g L' h₁ (cells ++ own) →
      CellsAre (bindC (envOfC qual scope L' f cdv).kindOf binds fun _ => none) (cellsFrom (L' + 1) scope.names []) cells → Below (Ar dp un gd l) base l g → K.In g → Top p loose mean mg mb g → (∀ q ∈ own, q.1 < L') →
      wpAny (model prog w) ((Ar dp un gd l).deeper (envOfC qual scope L' f cdv)) (execs body (envOfC qual scope L' f cdv))
        (fun fl s' => LeaveO R (match fl with | .ret v => v | _ => .none) s')
        (fun e s' => wpAny (model prog w) ((Ar dp un gd l).deeper (envOfC qual scope L' f cdv)) (leaving (envOfC qual scope L' f cdv) e) (fun _ s'' => R (.error e) s'') (fun e' s'' => R (.error e') s'') s')
        { s with heap := h₁, toks := tk })
    (hco : scope.isCoroutine = false) (hgen : scope.isGenerator = false) (hk : scope.kind = .function) : codeAny (model prog w) (Ar dp un gd l) (.call (.ref f) args) R s := by
  have X := X₀.keeps B.stays
  have keep : ∀ b o, s.heap.get? b = some o → b ∉ own.map (·.1) → (hideAll s.heap (own.map (·.1))).get? b = some o := fun b o e nb => hideAll_get _ e nb
  have st : base.StaysIn (hideAll s.heap (own.map (·.1))) := fun b o e => keep b o (B.stays b o e) fun q => by
    obtain ⟨x, hx, rfl⟩ := List.mem_map.mp q
    rw [(hown x hx).2.1] at e; cases e
  have B' : Below (Ar dp un gd l) base l (hideAll s.heap (own.map (·.1))) := ⟨B.stack, st, funFrames_hideAll B.frames fun env he b hb hf => by
    obtain ⟨x, hx, rfl⟩ := List.mem_map.mp hb
    exact (hown x hx).2.2 (List.mem_filterMap.mpr ⟨env, he, hf⟩)⟩
  refine codeAny_call_function hroom (X _ _ ho) rfl hco hgen rfl (codeRec_of X hcd) (hbind _ _ _ _ ?_)
  refine wpAny_newFunctionEnv_cells hk (kindsX hkind _) fun env' he s' x => ?_
  subst he
  refine ⟨(T.nolimit.keeps B.stays).keeps x.toInCall.keep, codeAny_func ?_⟩
  obtain ⟨h₁, tk, rfl, _⟩ := x.done
  have hk₁ := x.toInCall.keep
  obtain ⟨cells, NC, Y⟩ := Cl.news (h₀ := s.heap) (Nat.le_refl _) fun n c hm => ⟨x.cell n c (lookup_of_mem_nodup (cellsFrom_names scope.names 0 (s.heap.objs.size + 1) [] [] rfl ▸ hnd) hm), x.above n c hm⟩
  refine h _ s.heap.objs.size h₁ tk cells keep ⟨x.toInCall.ns, fun b o e => hk₁ b o (of_hideAll _ e), Nat.le_of_eq (hideAll_size _ _)⟩ (fun p hp => ?_) Y B' (X₀.keeps st) (T.keeps st) (fun q hq => Heap.lt_size (hown q hq).1)
  rcases List.mem_append.mp hp with hp | hp
  · refine ⟨(NC p hp).1, (NC p hp).2.1, ?_⟩
    cases q : (hideAll s.heap (own.map (·.1))).get? p.1 with
    | none => rfl
    | some o => have := of_hideAll _ q; rw [(NC p hp).2.2] at this; cases this
  · exact ⟨hk₁ _ _ (hown p hp).1, Nat.ne_of_lt (Heap.lt_size (hown p hp).1), hideAll_none _ (List.mem_map_of_mem hp)⟩
/-- the end of a lambda that has told a value -/
def LamRet (Q : Value → Shared → Prop) (v : Value) (s' : Shared) : Prop := Q v s'
theorem lam_deed {w : World} {p : Program} {loose : List Str} {mean : ExcName → Option Value} {mg mb : Str → Option Value} {prog : Program} {K : Frag}
    {dp un : Nat} {gd : Option (List Code)} {outer : List Env} {env : Env} {base h₀ : Heap} {L : Addr} {news : List (Addr × Obj)} {s : Shared} {Pv : Value → List (Addr × Obj) → Prop} {Pr : Prop}
    {f c' : Addr} {name qual : Str} {params : Arguments} {body : Expr} {scope : Scope} {cl : List (Str × Addr)} {pm ctv : Value} {binds : List (Str × Value)}
    (B : Below (Ar dp un gd outer) base outer h₀) (N : News h₀ L s.heap news) (X : K.In base) (T : Top p loose mean mg mb base) (hf : env.frame = some L)
    (hfd : (f, kla_obj name qual params body scope cl pm c' ctv) ∈ news) (hcd : s.heap.CodeRec (.ref c') qual) (hd : dp + 40 < recursionLimit)
    (hbind : bindArgs (kla_fn name qual params body scope cl pm (.ref c') ctv) ⟨[], []⟩ = pure binds) (hloc : ∀ y ∈ binds, scope.names.lookup y.1 = some .local)
    (hco : scope.isCoroutine = false) (hgen : scope.isGenerator = false) (hk : scope.kind = .function) (hcell : ∀ x ∈ scope.names, x.2 ≠ .cell)
    (h : ∀ env₂ g L' h₁ tk (Q E : Value → Shared → Prop), Fr g L' h₁ (fun y => binds.reverse.lookup y) → News g L' h₁ news → Below (Ar (dp + 2) (un + 6) gd (env₂ :: env :: outer)) base (env₂ :: env :: outer) g → K.In g → Top p loose mean mg mb g → (∀ q ∈ news, q.1 < L') →
      (∀ v h' tk' m', Pv v [] → Fr g L' h' m' → News g L' h' news → Q v { s with heap := h', toks := tk' }) →
      (∀ v nx h' tk' m', Pv v nx → Fr g L' h' m' → News g L' h' (nx ++ news) → (∀ q ∈ nx, ∀ z ∈ news, z.1 ≠ q.1) → Q v { s with heap := h', toks := tk' }) →
      (∀ e h' tk', Pr → Raz base g (env₂ :: env :: outer) news e h' → E (.ref e) { s with heap := h', toks := tk' }) →
      wpAny (model prog w) ((Ar (dp + 2) (un + 6) gd (env₂ :: env :: outer)).deeper (envX qual scope L' f (.ref c') cl)) (eval body (envX qual scope L' f (.ref c') cl)) Q
        (fun e s' => wpAny (model prog w) ((Ar (dp + 2) (un + 6) gd (env₂ :: env :: outer)).deeper (envX qual scope L' f (.ref c') cl)) (leaving (envX qual scope L' f (.ref c') cl) e) (fun _ s'' => E e s'') (fun e' s'' => E e' s'') s')
        { s with heap := h₁, toks := tk }) : DeedOk (model prog w) base (dp + 1) (un + 3) gd (env :: outer) s f Pv Pr := by
  intro env₂ h₂ tk Q E hk₂ B₂ hall hfr hr hz
  have hown : ∀ q ∈ news, h₂.get? q.1 = some q.2 ∧ base.get? q.1 = none ∧ q.1 ∉ (env₂ :: env :: outer).filterMap (·.frame) := fun q hq => by
    refine ⟨hall _ _ (N q hq).1, none_base B (N q hq).2.2, fun hm => ?_⟩
    obtain ⟨e', he, hf'⟩ := List.mem_filterMap.mp hm
    rcases List.mem_cons.mp he with rfl | he
    · have := hfr _ hf'; rw [(N q hq).1] at this; cases this
    · exact not_frame (o := q.2) B N hf hq (List.mem_filterMap.mpr ⟨e', he, hf'⟩)
  have hcd₂ : h₂.CodeRec (.ref c') qual := by
    obtain ⟨c, oc, vs, tq, hc, hoc, r⟩ := hcd
    exact ⟨c, oc, vs, tq, hc, hall _ _ hoc, r⟩
  refine wpAny_call (enter_lam (s := { s with heap := h₂, toks := tk }) B₂ X T hown (hown _ hfd).1 hcd₂ (by omega) hbind hloc ?_ hco hgen hk hcell)
  intro g L' h₁ hkp F' N' B' X' T' l1
  refine wpAny_mono (h env₂ g L' h₁ _ Q E F' N' B' X' T' l1 ?_ ?_ ?_) (fun v s' hq => hq) fun _ _ hq => hq
  · intro v h' tk' m' hv F₃ N₃
    exact hr v [] h' tk' hv (Kp.of hkp (fun q hq => (hown q hq).1) F₃ N₃ (fun q hq => hq)) (fun q hq => nomatch hq)
  · intro v nx h' tk' m' hv F₃ N₃ hnx
    refine hr v nx h' tk' hv (Kp.of hkp (fun q hq => (hown q hq).1) F₃ N₃ (fun q hq => List.mem_append_right _ hq)) fun q hq => ⟨(N₃ q (List.mem_append_left _ hq)).1, ?_⟩
    cases e : h₂.get? q.1 with
    | none => rfl
    | some o =>
      by_cases hm : q.1 ∈ news.map (·.1)
      · obtain ⟨z, hz, hzq⟩ := List.mem_map.mp hm
        exact absurd hzq (hnx q hq z hz)
      · have := (N₃ q (List.mem_append_left _ hq)).2.2
        rw [hkp _ _ e hm] at this; cases this
  · intro e h' tk' hp R
    exact hz e h' tk' hp (Raz.raw hkp (fun q hq => (hown q hq).1) (fun q hq => hq) R)
theorem write_line {w : World} {p : Program} {loose : List Str} {mean : ExcName → Option Value} {mg mb : Str → Option Value}
    {dp un : Nat} {gd : Option (List Code)} {outer : List Env} {env : Env} {base h₀ : Heap} {L : Addr} {m : Str → Option Value} {news : List (Addr × Obj)} {s : Shared} {Q E : Value → Shared → Prop}
    {x dx : Addr} {k : Str} {wd ht : Int} {P O : Array UInt8} {u0 u1 u2 u3 u4 : Tok} {t1 t2 t3 t4 t5 : Tok}
    (B : Below (Ar dp un gd outer) base outer h₀) (F : Fr h₀ L s.heap m) (N : News h₀ L s.heap news) (X : (Mine.pre.heap_1 w.params).In base) (T : Top p loose mean mg mb base) (hf : env.frame = some L) (hke : env.scope.kind = .function)
    (mx : (x, instObj 91 dx) ∈ news) (mdx : (dx, thumbD w t1 t2 t3 t4 t5 k u0 wd u1 ht u2 P u3 O u4) ∈ news) (hkk : KindOk k) (hxd : @LT.lt Nat _ dx x) (hP : P.size ≤ 1000000) (hO : O.size ≤ 1000000) 
    (hd : dp + 31 < recursionLimit) (hu : un + 153 < cLine)
    (hret : ∀ (bs : Array UInt8) (t : Tok) (h' : Heap) (tk' : Nat), SmallOk k wd ht P O → Fr h₀ L h' m → News h₀ L h' news → Q (.bytes bs t) { s with heap := h', toks := tk' })
    (hraz : ∀ (e : Addr) (h' : Heap) (tk' : Nat), ¬ SmallOk k wd ht P O → Raz base s.heap (env :: outer) [] e h' → E (.ref e) { s with heap := h', toks := tk' }) :
    wpAny (model PySem.Challenge.rw_ok0139_01.row.prog w) ((Ar dp un gd outer).deeper env) (call (.ref 137) [.ref x]) Q E s := by
  refine write_raw (dp := dp + 1) (un := un + 3) (l := env :: outer) (gd := gd) (below_here B F hf hke) X T (N _ mx).1 (N _ mdx).1 (none_base B (N _ mx).2.2) (none_base B (N _ mdx).2.2) (not_frame B N hf mx) (not_frame B N hf mdx) hxd (room2 hd rfl) (room2 hu rfl) hkk hP hO 
    (fun bs t h' tk' so k => hret bs t h' tk' so (F.keeps fun b o e => k b o e (fun z => nomatch z)) fun q hq => ⟨k _ _ (N q hq).1 (fun z => nomatch z), (N q hq).2⟩) hraz
theorem rows_line {w : World} {p : Program} {loose : List Str} {mean : ExcName → Option Value} {mg mb : Str → Option Value}
    {dp un : Nat} {gd : Option (List Code)} {outer : List Env} {env : Env} {base h₀ : Heap} {L : Addr} {m : Str → Option Value} {news : List (Addr × Obj)} {s : Shared} {Q E : Value → Shared → Prop}
    {x dx : Addr} {k : Str} {wd ht : Int} {P O : Array UInt8} {u0 u1 u2 u3 u4 : Tok} {t1 t2 t3 t4 t5 : Tok}
    (B : Below (Ar dp un gd outer) base outer h₀) (F : Fr h₀ L s.heap m) (N : News h₀ L s.heap news) (X : (Mine.pre.heap_1 w.params).In base) (T : Top p loose mean mg mb base) (hf : env.frame = some L) (hke : env.scope.kind = .function)
    (mx : (x, instObj 91 dx) ∈ news) (mdx : (dx, thumbD w t1 t2 t3 t4 t5 k u0 wd u1 ht u2 P u3 O u4) ∈ news) (hkk : KindOk k) (hxd : @LT.lt Nat _ dx x) (hP : P.size ≤ 1000000) (hO : O.size ≤ 1000000) (hdims : SmallOk k wd ht P O → k ≠ "jpeg" → wd ≤ 3 ∧ ht ≤ 2)
    (hd : dp + 31 < recursionLimit) (hu : un + 153 < cLine)
    (hret : ∀ (r : Addr) (arr : Array Value) (n : Nat) (h' : Heap) (tk' : Nat), SmallOk k wd ht P O → k ≠ "jpeg" → (∀ q ∈ news, q.1 ≠ r) → Fr h₀ L h' m → News h₀ L h' ((r, W.listOf arr n) :: news) → Q (.ref r) { s with heap := h', toks := tk' })
    (hraz : ∀ (e : Addr) (h' : Heap) (tk' : Nat), ¬ (SmallOk k wd ht P O ∧ k ≠ "jpeg") → Raz base s.heap (env :: outer) [] e h' → E (.ref e) { s with heap := h', toks := tk' }) :
    wpAny (model PySem.Challenge.rw_ok0139_01.row.prog w) ((Ar dp un gd outer).deeper env) (call (.ref 151) [.ref x]) Q E s := by
  refine rows_raw (dp := dp + 1) (un := un + 3) (l := env :: outer) (gd := gd) (below_here B F hf hke) X T (N _ mx).1 (N _ mdx).1 (none_base B (N _ mx).2.2) (none_base B (N _ mdx).2.2) (not_frame B N hf mx) (not_frame B N hf mdx) hxd (room2 hd rfl) (room2 hu rfl) hkk hP hO hdims
    (fun r arr n h' tk' so kj k e hn => hret r arr n h' tk' so kj (fun q hq z => by rw [← z, (N q hq).1] at hn; cases hn) (F.keeps fun b o e => k b o e (fun z => nomatch z)) fun q hq => by
      rcases List.mem_cons.mp hq with rfl | hq
      · refine ⟨e, fun z => ?_, ?_⟩
        · obtain ⟨oL, _, _, hL, _⟩ := F.ns
          rw [← z] at hL; exact absurd (hL.symm.trans hn) (by simp)
        · cases z : h₀.get? r with
          | none => rfl
          | some o => rw [F.keep _ _ z] at hn; cases hn
      · exact ⟨k _ _ (N q hq).1 (fun z => nomatch z), (N q hq).2⟩) hraz
theorem with_line {w : World} {p : Program} {loose : List Str} {mean : ExcName → Option Value} {mg mb : Str → Option Value}
    {dp un : Nat} {gd : Option (List Code)} {outer : List Env} {env : Env} {base h₀ : Heap} {L : Addr} {m : Str → Option Value} {news : List (Addr × Obj)} {s : Shared} {Q E : Value → Shared → Prop}
    {x dx : Addr} {k : Str} {wd ht : Int} {P O H : Array UInt8} {uh u0 u1 u2 u3 u4 : Tok} {t1 t2 t3 t4 t5 : Tok}
    (B : Below (Ar dp un gd outer) base outer h₀) (F : Fr h₀ L s.heap m) (N : News h₀ L s.heap news) (X : (Mine.pre.heap_1 w.params).In base) (T : Top p loose mean mg mb base) (hf : env.frame = some L) (hke : env.scope.kind = .function)
    (mx : (x, instObj 91 dx) ∈ news) (mdx : (dx, thumbD w t1 t2 t3 t4 t5 k u0 wd u1 ht u2 P u3 O u4) ∈ news) (hkk : KindOk k) (hxd : @LT.lt Nat _ dx x) (hP : P.size ≤ 1000000) (hO : O.size ≤ 1000000) (hH : H.size ≤ 1000)
    (hd : dp + 31 < recursionLimit) (hu : un + 153 < cLine)
    (hret : ∀ (bs : Array UInt8) (t : Tok) (h' : Heap) (tk' : Nat), WithOk k wd ht P O H → Fr h₀ L h' m → News h₀ L h' news → Q (.bytes bs t) { s with heap := h', toks := tk' })
    (hraz : ∀ (e : Addr) (h' : Heap) (tk' : Nat), ¬ WithOk k wd ht P O H → Raz base s.heap (env :: outer) [] e h' → E (.ref e) { s with heap := h', toks := tk' }) :
    wpAny (model PySem.Challenge.rw_ok0139_01.row.prog w) ((Ar dp un gd outer).deeper env) (call (.ref 144) [.bytes H uh, .ref x]) Q E s := by
  refine with_raw (dp := dp + 1) (un := un + 3) (l := env :: outer) (gd := gd) (below_here B F hf hke) X T (N _ mx).1 (N _ mdx).1 (none_base B (N _ mx).2.2) (none_base B (N _ mdx).2.2) (not_frame B N hf mx) (not_frame B N hf mdx) hxd (room2 hd rfl) (room2 hu rfl) hkk hP hO hH
    (fun bs t h' tk' so k => hret bs t h' tk' so (F.keeps fun b o e => k b o e (fun z => nomatch z)) fun q hq => ⟨k _ _ (N q hq).1 (fun z => nomatch z), (N q hq).2⟩) hraz
theorem let_line {w : World} {p : Program} {loose : List Str} {mean : ExcName → Option Value} {mg mb : Str → Option Value}
    {dp un : Nat} {gd : Option (List Code)} {outer : List Env} {env : Env} {base h₀ : Heap} {L : Addr} {m : Str → Option Value} {news : List (Addr × Obj)} {s : Shared} {Q E : Value → Shared → Prop}
    {x dx : Addr} {k : Str} {wd ht : Int} {P O : Array UInt8} {u0 u1 u2 u3 u4 : Tok} {t1 t2 t3 t4 t5 : Tok}
    (B : Below (Ar dp un gd outer) base outer h₀) (F : Fr h₀ L s.heap m) (N : News h₀ L s.heap news) (X : (Mine.pre.heap_1 w.params).In base) (T : Top p loose mean mg mb base) (hf : env.frame = some L) (hke : env.scope.kind = .function)
    (mx : (x, instObj 91 dx) ∈ news) (mdx : (dx, thumbD w t1 t2 t3 t4 t5 k u0 wd u1 ht u2 P u3 O u4) ∈ news) (hkk : KindOk k) (hxd : @LT.lt Nat _ dx x) (hP : P.size ≤ 1000000) (hO : O.size ≤ 1000000) 
    (hd : dp + 31 < recursionLimit) (hu : un + 153 < cLine)
    (hret : ∀ (b : Bool) (h' : Heap) (tk' : Nat), (b = true ↔ SmallOk k wd ht P O) → Fr h₀ L h' m → News h₀ L h' news → Q (.bool b) { s with heap := h', toks := tk' }) :
    wpAny (model PySem.Challenge.rw_ok0139_01.row.prog w) ((Ar dp un gd outer).deeper env) (call (.ref 193) [.ref x]) Q E s := by
  refine let_raw (dp := dp + 1) (un := un + 3) (l := env :: outer) (gd := gd) (below_here B F hf hke) X T (N _ mx).1 (N _ mdx).1 (none_base B (N _ mx).2.2) (none_base B (N _ mdx).2.2) (not_frame B N hf mx) (not_frame B N hf mdx) hxd (room2 hd rfl) (room2 hu rfl) hkk hP hO 
    (fun b h' tk' so k => hret b h' tk' so (F.keeps fun b o e => k b o e (fun z => nomatch z)) fun q hq => ⟨k _ _ (N q hq).1 (fun z => nomatch z), (N q hq).2⟩)

theorem lay_54 : True := by
  k_with "call ref" => (k_here; (with_reducible show wpAny _ _ (call (Value.ref 137) _) _ _ _); k_dflt (refine' write_line ?B₉ ?F₉ ?N₉ ?X₉ ?T₉ ?hf₉ ?hke₉ ?mx₉ ?md₉ ?kk₉ ?xd₉ ?hP₉ ?hO₉ ?hd₉ ?hu₉ ?_ ?_; walk_at "zA"; walk_at "zM"; walk_at "zD"); all_goals first | (intro bs'₉ bt'₉ h'₉ tk'₉ so'₉ F'₉ N'₉; k_sweep) | (intro e'₉ h'₉ tk'₉ so'₉ R'₉))
  k_with "call ref" => (k_here; (with_reducible show wpAny _ _ (call (Value.ref 151) _) _ _ _); k_dflt (refine' rows_line ?B₉ ?F₉ ?N₉ ?X₉ ?T₉ ?hf₉ ?hke₉ ?mx₉ ?md₉ ?kk₉ ?xd₉ ?hP₉ ?hO₉ ?hz₉ ?hd₉ ?hu₉ ?_ ?_; walk_at "zA"; walk_at "zM"; (case hz₉ => assumption); walk_at "zD"); all_goals first | (intro r'₉ arr'₉ n'₉ h'₉ tk'₉ so'₉ kj'₉ rn'₉ F'₉ N'₉; k_sweep) | (intro e'₉ h'₉ tk'₉ so'₉ R'₉))
  k_with "call ref" => (k_here; (with_reducible show wpAny _ _ (call (Value.ref 144) _) _ _ _); k_dflt (refine' with_line ?B₉ ?F₉ ?N₉ ?X₉ ?T₉ ?hf₉ ?hke₉ ?mx₉ ?md₉ ?kk₉ ?xd₉ ?hP₉ ?hO₉ ?hH₉ ?hd₉ ?hu₉ ?_ ?_; walk_at "zA"; walk_at "zM"; (case hH₉ => first | assumption | (simp only [List.size_toArray, List.length_cons, List.length_nil]; omega) | decide); walk_at "zD"); all_goals first | (intro bs'₉ bt'₉ h'₉ tk'₉ so'₉ F'₉ N'₉; k_sweep) | (intro e'₉ h'₉ tk'₉ so'₉ R'₉))
  k_with "call ref" => (k_here; (with_reducible show wpAny _ _ (call (Value.ref 193) _) _ _ _); k_dflt (refine' let_line ?B₉ ?F₉ ?N₉ ?X₉ ?T₉ ?hf₉ ?hke₉ ?mx₉ ?md₉ ?kk₉ ?xd₉ ?hP₉ ?hO₉ ?hd₉ ?hu₉ ?_; walk_at "zA"; walk_at "zM"; walk_at "zD"); intro lb'₉ h'₉ tk'₉ hlb'₉ F'₉ N'₉; k_sweep)
  k_with "call ref" => (k_here; (with_reducible show wpAny _ _ (call (Value.ref 172) _) _ _ _); refine Hold.of ?_)
  k_with "zdeed_go" => (k_dflt (refine' lam_deed ?B₉ ?N₉ ?X₉ ?T₉ ?hf₉ ?fm₉ ?cd₉ ?hd₉ ?hb₉ ?hl₉ ?co₉ ?hg₉ ?hk₉ ?hc₉ ?_; (case B₉ => k_asm); (case N₉ => k_asm); (case X₉ => k_asm); (case T₉ => k_asm); (case hf₉ => exact rfl); (case fm₉ => k_mem); (case cd₉ => exact codeRec_news (by k_asm) (by k_mem) (by assumption) (by assumption)); (case hd₉ => omega); (case hb₉ => exact rfl); (case hl₉ => exact locs rfl); (case co₉ => exact rfl); (case hg₉ => exact rfl); (case hk₉ => exact rfl); (case hc₉ => decide); k_whole); intro env₂ g₂ L₂ h₂ tk₂ Q₂ E₂ F₂ N₂ B₂ X₂ T₂ l₂ hr₂ hrx₂ hz₂; (try dsimp only); (try k_fold); k_steps; all_goals (try dsimp only); all_goals first | exact hr₂ _ _ _ _ ⟨rfl, by assumption⟩ (by assumption) (by assumption) | exact hr₂ _ _ _ _ ⟨⟨_, _, rfl⟩, by assumption⟩ (by assumption) (by assumption) | exact hrx₂ _ _ _ _ _ ⟨_, _, _, rfl, rfl, by assumption, by assumption⟩ (by assumption) (by assumption) (fun q hq z hz => by cases List.mem_singleton.mp hq; exact (by assumption : ∀ q ∈ _, q.1 ≠ _) z hz) | exact hz₂ _ _ _ (by assumption) (by assumption))
  k_with "callWith ref" => (k_here; (with_reducible show wpAny _ _ (callWith _ (Value.ref _) _ (backTo _ (starEach (_ :: _) _)) []) _ _ _); k_dflt (refine' callWith_K ?k1₉ ?k2₉ ?_; (case k1₉ => k_asm); (case k2₉ => k_is); k_whole))
  trivial

section
noncomputable def hd0 : Array UInt8 := (74 :: 70 :: 73 :: 70 :: 0 :: (Array.replicate (Int.toNat 9) 0).toList).toArray
noncomputable def hd1 : Array UInt8 := (74 :: 70 :: 73 :: 70 :: 0 :: (Array.replicate (Int.toNat 8) 0).toList).toArray
noncomputable def hd2 : Array UInt8 := (74 :: 70 :: 88 :: 88 :: 0 :: (Array.replicate (Int.toNat 9) 0).toList).toArray
theorem hd0_eq : (74 :: 70 :: 73 :: 70 :: 0 :: (Array.replicate (Int.toNat 9) 0).toList).toArray = hd0 := rfl
theorem hd1_eq : (74 :: 70 :: 73 :: 70 :: 0 :: (Array.replicate (Int.toNat 8) 0).toList).toArray = hd1 := rfl
theorem hd2_eq : (74 :: 70 :: 88 :: 88 :: 0 :: (Array.replicate (Int.toNat 9) 0).toList).toArray = hd2 := rfl
theorem WithOk.so {k : Str} {wd ht : Int} {P O H : Array UInt8} (z : WithOk k wd ht P O H) : SmallOk k wd ht P O := z.1
theorem WithOk.rgb {k : Str} {wd ht : Int} {P O H : Array UInt8} (z : WithOk k wd ht P O H) : k = "rgb" := z.2.1
theorem WithOk.is0 {k : Str} {wd ht : Int} {P O : Array UInt8} (z : SmallOk k wd ht P O) (e : k = "rgb") : WithOk k wd ht P O hd0 := ⟨z, e, by decide +kernel, by decide +kernel⟩
theorem WithOk.not1 {k : Str} {wd ht : Int} {P O : Array UInt8} : ¬ WithOk k wd ht P O hd1 := fun z => absurd z.2.2.2 (by decide +kernel)
theorem WithOk.not2 {k : Str} {wd ht : Int} {P O : Array UInt8} : ¬ WithOk k wd ht P O hd2 := fun z => absurd z.2.2.1 (by decide +kernel)
theorem hd_size : hd0.size ≤ 1000 ∧ hd1.size ≤ 1000 ∧ hd2.size ≤ 1000 := by decide +kernel
theorem hd_size1 {H : Array UInt8} (h : H ∈ [hd0, hd1, hd2]) : H.size ≤ 1000 := by
  simp only [List.mem_cons, List.not_mem_nil, or_false] at h
  rcases h with rfl | rfl | rfl
  · exact hd_size.1
  · exact hd_size.2.1
  · exact hd_size.2.2
theorem hd_is0 {H : Array UInt8} {k : Str} {wd ht : Int} {P O : Array UInt8} (h : H ∈ [hd0, hd1, hd2]) (wo : WithOk k wd ht P O H) : H = hd0 := by
  simp only [List.mem_cons, List.not_mem_nil, or_false] at h
  rcases h with rfl | rfl | rfl
  · rfl
  · exact absurd wo WithOk.not1
  · exact absurd wo WithOk.not2
theorem hd_not0 {H : Array UInt8} {k : Str} {wd ht : Int} {P O : Array UInt8} (h : H ∈ [hd0, hd1, hd2]) (so : SmallOk k wd ht P O) (e : k = "rgb") (nw : ¬ WithOk k wd ht P O H) : H = hd1 ∨ H = hd2 := by
  simp only [List.mem_cons, List.not_mem_nil, or_false] at h
  rcases h with rfl | h
  · exact absurd (WithOk.is0 so e) nw
  · exact h
theorem lay_55_0 : True := by
  k_with "subscriptTail" => (k_here; (with_reducible show wpAny _ (Around.deeper _ (envOfC (Str.ofString "_law_small_right") _ _ _ _)) _ _ _ _); (with_reducible show wpAny _ _ (subscriptTail _ _ (Value.ref _) (Value.int _ _)) _ _ _); k_dflt (refine' item_bytes (bs := [hd0, hd1, hd2]) ?N₉ ?m₉ ?w₉ ?h0₉ ?h1₉ ?h2₉ ?_; (case N₉ => k_asm); (case m₉ => k_mem); (case w₉ => (intro v hv; simp only [List.mem_cons, List.not_mem_nil, or_false] at hv; rcases hv with rfl | rfl | rfl; exact ⟨hd0, _, rfl, List.Mem.head _⟩; exact ⟨hd1, _, rfl, .tail _ (List.Mem.head _)⟩; exact ⟨hd2, _, rfl, .tail _ (.tail _ (List.Mem.head _))⟩)); (case h0₉ => assumption); (case h1₉ => assumption); (case h2₉ => omega)); intro Hx Ht hHx)
  k_with "compareOp Eq ref str" => (k_here; (with_reducible show wpAny _ (Around.deeper _ (envOfC (Str.ofString "_law_small_right") _ _ _ _)) _ _ _ _); (with_reducible show wpAny _ _ (compareOp CmpOp.Eq (Value.ref _) (Value.str _ _)) _ _ _); k_dflt (refine' list_eq_str ?a₉ ?u₉ ?_; (case a₉ => assumption); (case u₉ => k_units); k_whole))
  trivial
theorem sub4 {a b c d : Addr × Obj} {ks : List Addr} {news : List (Addr × Obj)} (h1 : a.1 ∈ ks) (h2 : b ∈ news) (h3 : c ∈ news) (h4 : d.1 ∈ ks) : ∀ q ∈ [a, b, c, d], q.1 ∈ ks ∨ q ∈ news := fun q hq => by
  simp only [List.mem_cons, List.not_mem_nil, or_false] at hq
  rcases hq with rfl | rfl | rfl | rfl
  · exact .inl h1
  · exact .inr h2
  · exact .inr h3
  · exact .inl h4
theorem lay_55_1 : True := by
  k_with "execs cons" => (k_here; (with_reducible show wpAny _ (Around.deeper _ (envOfC (Str.ofString "_law_small_right") _ _ _ _)) _ _ _ _); (with_reducible show wpAny _ _ (execs (_ :: _ :: _) (envOfC (Str.ofString "_law_small_right") _ _ _ _)) _ _ _); refine Hold.of ?_)
  trivial
/-- a statement of _law_small_right is done: the ledger lst stands over a turned ground -/
def RtK (A₀ : Around) (base : Heap) (outer : List Env) (g : Heap) (L : Addr) (m : Str → Option Value) (lst : List (Addr × Obj)) (s s' : Shared) : Prop :=
  ∃ (g₁ h' : Heap) (tk : Nat), s' = { s with heap := h', toks := tk } ∧ Below A₀ base outer g₁ ∧ KtsTurn (outer.filterMap (·.frame)) g g₁ ∧ Fr g₁ L h' m ∧ News g₁ L h' lst
theorem RtK.intro {A₀ : Around} {base g g₁ h' : Heap} {outer : List Env} {L : Addr} {m : Str → Option Value} {lst all : List (Addr × Obj)} {s : Shared} {tk : Nat} (B : Below A₀ base outer g₁) (T : KtsTurn (outer.filterMap (·.frame)) g g₁) (F : Fr g₁ L h' m) (N : News g₁ L h' all) (hs : ∀ q ∈ lst, q ∈ all) :
    RtK A₀ base outer g L m lst s { s with heap := h', toks := tk } := ⟨g₁, h', tk, rfl, B, T, F, fun q hq => N q (hs q hq)⟩
theorem News.tl {g h : Heap} {L : Addr} {a : Addr × Obj} {l : List (Addr × Obj)} (N : News g L h (a :: l)) : News g L h l := fun q hq => N q (.tail _ hq)
/-- .. and the table has one more row, of a cell of its own -/
def RtC (A₀ : Around) (base : Heap) (outer : List Env) (g : Heap) (L : Addr) (m : Str → Option Value) (lst : List (Addr × Obj)) (P : Addr) (ps : Array Value) (la ca : Int) (s s' : Shared) : Prop :=
  ∃ cc : Addr, RtK A₀ base outer g L m (lst ++ [(P, tabObj (ps ++ #[rawInt la, rawInt ca, .ref cc]))]) s s'
theorem RtC.intro {A₀ : Around} {base g g₁ h' : Heap} {outer : List Env} {L P cc : Addr} {m : Str → Option Value} {lst all : List (Addr × Obj)} {ps : Array Value} {la ca : Int} {s : Shared} {tk : Nat} (B : Below A₀ base outer g₁) (T : KtsTurn (outer.filterMap (·.frame)) g g₁) (F : Fr g₁ L h' m) (N : News g₁ L h' all)
    (hm : (P, tabObj (ps ++ #[rawInt la, rawInt ca, .ref cc])) ∈ all) (hs : ∀ q ∈ lst, q ∈ all) : RtC A₀ base outer g L m lst P ps la ca s { s with heap := h', toks := tk } :=
  ⟨cc, RtK.intro B T F N fun q hq => (List.mem_append.mp hq).elim (hs q) fun h => by cases List.mem_singleton.mp h; exact hm⟩
theorem rt_block {M : Model} {A A₀ : Around} {base g : Heap} {outer : List Env} {E : Value → Shared → Prop} {env : Env} {S1 : Stmt} {rest : List Stmt} {Q : Flow → Shared → Prop} {s : Shared} {L P : Addr} {m : Str → Option Value} {x1 x2 x3 x4 x5 x6 : Addr × Obj} {ps : Array Value} (la ca : Int)
    (_B : Below A₀ base outer g) (F : Fr g L s.heap m) (N : News g L s.heap [x1, x2, x3, x4, x5, x6, (P, tabObj ps)])
    (h1 : wpAny M A (exec S1 env) (fun fl s1 => fl = .next ∧ RtC A₀ base outer g L m [x1, x2, x3, x4, x5, x6] P ps la ca s s1) E s)
    (h2 : ∀ (g₁ h' : Heap) (tk : Nat) (cc : Addr), Below A₀ base outer g₁ → KtsTurn (outer.filterMap (·.frame)) g g₁ → Fr g₁ L h' m → News g₁ L h' [x1, x2, x3, x4, x5, x6, (P, tabObj (ps ++ #[rawInt la, rawInt ca, .ref cc]))] → wpAny M A (execs rest env) Q E { s with heap := h', toks := tk }) :
    wpAny M A (execs (S1 :: rest) env) Q E s := by
  refine wpAny_execs_cons (wpAny_mono h1 (fun fl s1 h => ?_) fun _ _ x => x)
  obtain ⟨rfl, cc, g₁, h', tk, rfl, B, T, F', N'⟩ := h
  exact h2 g₁ h' tk cc B T F' N'
def RtP (A₀ : Around) (base : Heap) (outer : List Env) (g : Heap) (L : Addr) (m : Str → Option Value) (lst : List (Addr × Obj)) (nm : Str) (W : Prop) (s : Shared) (fl : Flow) (s1 : Shared) : Prop :=
  fl = .next ∧ ∃ hp : Bool, (hp = true ↔ W) ∧ RtK A₀ base outer g L (fun y => if y = nm then some (.bool hp) else m y) lst s s1
theorem RtP.intro {A₀ : Around} {base g g₁ h' : Heap} {outer : List Env} {L : Addr} {m : Str → Option Value} {lst all : List (Addr × Obj)} {s : Shared} {tk : Nat} {nm : Str} {W : Prop} {hp : Bool} (hw : hp = true ↔ W) (B : Below A₀ base outer g₁) (T : KtsTurn (outer.filterMap (·.frame)) g g₁) (F : Fr g₁ L h' (fun y => if y = nm then some (.bool hp) else m y)) (N : News g₁ L h' all) (hs : ∀ q ∈ lst, q ∈ all) :
    RtP A₀ base outer g L m lst nm W s .next { s with heap := h', toks := tk } := ⟨rfl, hp, hw, RtK.intro B T F N hs⟩
theorem leafA {k : Str} (nj : k ≠ "jpeg") (ha : (false == (k != "jpeg")) = true) : False := by rw [bne_iff_ne.mpr nj] at ha; cases ha
theorem leafB {k : Str} (ej : k = "jpeg") (ha : (true == (k != "jpeg")) = true) : False := by subst ej; revert ha; decide +kernel
theorem place_iff {wd ht : Int} {P O H : Array UInt8} (so : SmallOk "rgb" wd ht P O) (hH : H ∈ [hd0, hd1, hd2]) : (H.toList == hd0.toList) = true ↔ WithOk "rgb" wd ht P O H :=
  ⟨fun e => by rw [Array.toList_inj.mp (beq_iff_eq.mp e)]; exact WithOk.is0 so rfl, fun z => by rw [hd_is0 hH z]; exact beq_self_eq_true _⟩
theorem rt_place {M : Model} {A A₀ : Around} {base g : Heap} {outer : List Env} {E : Value → Shared → Prop} {env : Env} {S1 : Stmt} {rest : List Stmt} {Q : Flow → Shared → Prop} {s : Shared} {L : Addr} {m : Str → Option Value} {lst : List (Addr × Obj)} (nm : Str) (W : Prop)
    (_B : Below A₀ base outer g) (F : Fr g L s.heap m) (N : News g L s.heap lst)
    (h1 : wpAny M A (exec S1 env) (RtP A₀ base outer g L m lst nm W s) E s)
    (h2 : ∀ (g₁ h' : Heap) (tk : Nat) (hp : Bool), (hp = true ↔ W) → Below A₀ base outer g₁ → KtsTurn (outer.filterMap (·.frame)) g g₁ → Fr g₁ L h' (fun y => if y = nm then some (.bool hp) else m y) → News g₁ L h' lst → wpAny M A (execs rest env) Q E { s with heap := h', toks := tk }) :
    wpAny M A (execs (S1 :: rest) env) Q E s := by
  refine wpAny_execs_cons (wpAny_mono h1 (fun fl s1 h => ?_) fun _ _ x => x)
  obtain ⟨rfl, hp, hw, g₁, h', tk, rfl, B, T, F', N'⟩ := h
  exact h2 g₁ h' tk hp hw B T F' N'
theorem bool_not {b : Bool} {S : Prop} (h : b = true ↔ S) (n : ¬ S) : b = false := by
  cases b
  · rfl
  · exact absurd (h.mp rfl) n
theorem lay_55_2 : True := by
  k_with "zJ" => (repeat (first | exact List.forall_mem_nil _ | (refine List.forall_mem_cons.mpr ⟨by k_mem, ?_⟩)))
  k_with "RtC" => refine Hold.of ?_
  k_with "RtP" => refine Hold.of ?_
  trivial
theorem right_raw {w : World} {p : Program} {loose : List Str} {mean : ExcName → Option Value} {mg mb : Str → Option Value}
    {dp un : Nat} {gd : Option (List Code)} {l : List Env} {base : Heap} {s : Shared} {Q E : Value → Shared → Prop} {src x dx : Addr} {k : Str} {wd ht : Int} {P O : Array UInt8} {u0 u1 u2 u3 u4 : Tok} {t1 t2 t3 t4 t5 : Tok} {R : SrcR}
    (B : Below (Ar dp un gd l) base l s.heap) (X : (Mine.pre.heap_1 w.params).In base) (T : Top p loose mean mg mb base) (C : CodeHd base 199 195)
    (hs : s.heap.get? src = some (srcO R)) (hsb : base.get? src = none) (hsl : src ∉ l.filterMap (·.frame))
    (hx : s.heap.get? x = some (instObj 91 dx)) (hdx : s.heap.get? dx = some (thumbD w t1 t2 t3 t4 t5 k u0 wd u1 ht u2 P u3 O u4))
    (hxb : base.get? x = none) (hdb : base.get? dx = none) (hxl : x ∉ l.filterMap (·.frame)) (hdl : dx ∉ l.filterMap (·.frame)) (hxd : @LT.lt Nat _ dx x)
    (ht5 : s.heap.get? 195 = some (tabObj #[])) (htb : base.get? 195 = none) (htl : 195 ∉ l.filterMap (·.frame)) (hts : @Ne Nat 195 src ∧ @Ne Nat 195 dx ∧ @Ne Nat 195 x) (hsd : @LT.lt Nat _ src dx)
    (hd : dp + 60 < recursionLimit) (hu : un + 300 < cLine) (hkk : KindOk k) (hP : P.size ≤ 1000000) (hO : O.size ≤ 1000000)
    (hdims : SmallOk k wd ht P O → k ≠ "jpeg" → wd ≤ 3 ∧ ht ≤ 2)
    (hret : ∀ (R' : SrcR) (h' : Heap) (tk' : Nat),
      KpG [src, 195] l s.heap h' → h'.get? src = some (srcO R') → (∃ ps, h'.get? 195 = some (tabObj ps)) → Q (.bool true) { s with heap := h', toks := tk' }) :
    wpAny (model PySem.Challenge.rw_ok0139_01.row.prog w) (Ar dp un gd l) (call (.ref 200) [.ref src, .ref x]) Q E s := by
  revert X
  k_fill
  intro X
  refine wpAny_call ?_
  let D : Obj := thumbD w t1 t2 t3 t4 t5 k u0 wd u1 ht u2 P u3 O u4
  have hown : ∀ q ∈ [(src, srcO R), (x, instObj 91 dx), (dx, D), (195, tabObj #[])], s.heap.get? q.1 = some q.2 ∧ base.get? q.1 = none ∧ q.1 ∉ l.filterMap (·.frame) := by
    intro q hq; rcases List.mem_cons.mp hq with rfl | hq; exact ⟨hs, hsb, hsl⟩; rcases List.mem_cons.mp hq with rfl | hq; exact ⟨hx, hxb, hxl⟩; rcases List.mem_cons.mp hq with rfl | hq; exact ⟨hdx, hdb, hdl⟩; cases List.mem_singleton.mp hq; exact ⟨ht5, htb, htl⟩
  k_dflt (refine' enter_rawC (own := [(src, srcO R), (x, instObj 91 dx), (dx, D), (195, tabObj #[])]) B X T hown ?k6 ?k7 ?k8 ?k9 ?kB ?kD ?_ ?c2 ?c3 ?c4)
  case k6 => k_is
  case k7 => k_is
  case k8 => exact room0 hd
  case k9 => exact BindsTo.of_eq rfl
  case kB => exact rfl
  case kD => decide +kernel
  case c2 => exact rfl
  case c3 => exact rfl
  case c4 => exact rfl
  intro g' L' h' tk' cells' hkp F' N' Y' B' X' T' l1
  (try k_lt l1); k_cells Y'; (try simp only [List.cons_append, List.nil_append] at N')
  have TT : KtsTurn (l.filterMap (·.frame)) g' g' := KtsTurn.refl
  clear hs hx hdx ht5
  (try dsimp only); (try k_fold)
  k_steps
  unfold Hold
  refine wpAny_execs_cons ?_
  k_steps
  unfold Hold
  rename (_ = true ↔ SmallOk k wd ht P O) => hlb
  rename Bool => lb
  rename Fr _ _ _ _ => F1
  rename News _ _ _ _ => N0
  have N1 := News.tl N0
  clear N0
  refine rt_block ((170 : Nat) : Int) ((20 : Nat) : Int) B' F1 N1 ?_ ?_
  · k_steps
    ((unfold Hold; k_dflt (refine' result_line (Pv := (fun v nx => v = .none ∧ SmallOk k wd ht P O)) (Pr := (¬ SmallOk k wd ht P O)) ?B₉ ?F₉ ?N₉ ?X₉ ?T₉ ?hf₉ ?hke₉ ?fn₉ ?hd₉ ?hu₉ ?_ ?_ ?_; walk_at "zA"; (case fn₉ => exact FnAt.of (by k_asm) (by k_mem)); walk_at "zD")))
    · k_extra "zdeed_go"
    · rintro v nx h' tk' ⟨rfl, so⟩ hne Nx F' N'
      have e := hlb.mpr so
      subst e
      clear hlb
      clear hne Nx
      k_sweep
      k_steps
      all_goals (unfold Hold; k_dflt (refine' RtC.intro ?jB ?jT ?jF ?jN ?jm ?js; (case jT => exact KtsTurn.refl); (case jF => assumption); (case jN => assumption); (case jB => assumption); (case jm => k_mem); (case js => walk_at "zJ")))
    · intro t h₁ h' tk' npr T₁' B' X' T' F' N'
      have e := bool_not hlb npr
      subst e
      clear hlb npr
      k_sweep
      k_steps
      all_goals (unfold Hold; k_dflt (refine' RtC.intro ?jB ?jT ?jF ?jN ?jm ?js; (case jT => exact T₁'); (case jF => assumption); (case jN => assumption); (case jB => assumption); (case jm => k_mem); (case js => walk_at "zJ")))
  intro g2 h2 tk2 cc2 B2 U2 F2 N2
  have X2 := X.keeps B2.stays
  have T2 := T.keeps B2.stays
  replace TT := TT.trans U2
  clear F1 N1 U2 B' X' T'
  k_sweep
  k_steps
  unfold Hold
  refine rt_block ((172 : Nat) : Int) ((20 : Nat) : Int) B2 F2 N2 ?_ ?_
  · k_steps
    ((unfold Hold; k_dflt (refine' result_line (Pv := (fun v nx => (∃ bs t, v = .bytes bs t) ∧ SmallOk k wd ht P O)) (Pr := (¬ SmallOk k wd ht P O)) ?B₉ ?F₉ ?N₉ ?X₉ ?T₉ ?hf₉ ?hke₉ ?fn₉ ?hd₉ ?hu₉ ?_ ?_ ?_; walk_at "zA"; (case fn₉ => exact FnAt.of (by k_asm) (by k_mem)); walk_at "zD")))
    · k_extra "zdeed_go"
    · rintro v nx h' tk' ⟨⟨bs, t, rfl⟩, so⟩ hne Nx F' N'
      have e := hlb.mpr so
      subst e
      clear hlb
      clear hne Nx
      k_sweep
      k_steps
      all_goals (unfold Hold; k_dflt (refine' RtC.intro ?jB ?jT ?jF ?jN ?jm ?js; (case jT => exact KtsTurn.refl); (case jF => assumption); (case jN => assumption); (case jB => assumption); (case jm => k_mem); (case js => walk_at "zJ")))
    · intro t h₁ h' tk' npr T₁' B' X' T' F' N'
      have e := bool_not hlb npr
      subst e
      clear hlb npr
      k_sweep
      k_steps
      all_goals (unfold Hold; k_dflt (refine' RtC.intro ?jB ?jT ?jF ?jN ?jm ?js; (case jT => exact T₁'); (case jF => assumption); (case jN => assumption); (case jB => assumption); (case jm => k_mem); (case js => walk_at "zJ")))
  intro g3 h3 tk3 cc3 B3 U3 F3 N3
  have X3 := X.keeps B3.stays
  have T3 := T.keeps B3.stays
  replace TT := TT.trans U3
  clear F2 N2 U3 B2 X2 T2
  k_sweep
  k_steps
  unfold Hold
  refine rt_block ((174 : Nat) : Int) ((20 : Nat) : Int) B3 F3 N3 ?_ ?_
  · k_steps
    ((unfold Hold; k_dflt (refine' result_line (Pv := (fun v nx => ∃ r arr n, v = .ref r ∧ nx = [(r, W.listOf arr n)] ∧ SmallOk k wd ht P O ∧ k ≠ "jpeg")) (Pr := (¬ (SmallOk k wd ht P O ∧ k ≠ "jpeg"))) ?B₉ ?F₉ ?N₉ ?X₉ ?T₉ ?hf₉ ?hke₉ ?fn₉ ?hd₉ ?hu₉ ?_ ?_ ?_; walk_at "zA"; (case fn₉ => exact FnAt.of (by k_asm) (by k_mem)); walk_at "zD")))
    · k_extra "zdeed_go"
    · rintro v nx h' tk' ⟨r, arr, n, rfl, rfl, so, nj⟩ hne Nx F' N'
      have hrl : h'.get? r = some (W.listOf arr n) := (Nx _ (List.Mem.head _)).1
      have e := hlb.mpr so
      subst e
      clear hlb
      clear hne Nx
      k_sweep
      k_steps
      all_goals first | exact (leafA nj (by assumption)).elim | (unfold Hold; k_dflt (refine' RtC.intro ?jB ?jT ?jF ?jN ?jm ?js; (case jT => exact KtsTurn.refl); (case jF => assumption); (case jN => assumption); (case jB => assumption); (case jm => k_mem); (case js => walk_at "zJ")))
    · intro t h₁ h' tk' npr T₁' B' X' T' F' N'
      cases lb
      · clear npr hlb
        k_sweep
        k_steps
        all_goals (unfold Hold; k_dflt (refine' RtC.intro ?jB ?jT ?jF ?jN ?jm ?js; (case jT => exact T₁'); (case jF => assumption); (case jN => assumption); (case jB => assumption); (case jm => k_mem); (case js => walk_at "zJ")))
      · have ej : k = "jpeg" := Classical.byContradiction fun z => npr ⟨hlb.mp rfl, z⟩
        clear npr hlb
        k_sweep
        k_steps
        all_goals first | exact (leafB ej (by assumption)).elim | (unfold Hold; k_dflt (refine' RtC.intro ?jB ?jT ?jF ?jN ?jm ?js; (case jT => exact T₁'); (case jF => assumption); (case jN => assumption); (case jB => assumption); (case jm => k_mem); (case js => walk_at "zJ")))
  intro g4 h4 tk4 cc4 B4 U4 F4 N4
  have X4 := X.keeps B4.stays
  have T4 := T.keeps B4.stays
  replace TT := TT.trans U4
  clear F3 N3 U4 B3 X3 T3
  k_sweep
  k_steps
  unfold Hold
  refine wpAny_execs_cons ?_
  k_steps
  unfold Hold
  rename _ ∈ [hd0, hd1, hd2] => hH
  rename Array UInt8 => H
  have hz : H.size ≤ 1000 := hd_size1 hH
  rename Fr _ _ _ _ => F5
  rename News _ _ _ _ => N4
  have N5 := News.tl N4
  clear N4
  refine rt_place "has_place" (WithOk k wd ht P O H) B4 F5 N5 ?_ ?_
  · cases lb
    · have hn : ¬ WithOk k wd ht P O H := fun z => absurd (hlb.mpr z.so) (by decide)
      clear hlb
      k_steps
      all_goals (unfold Hold; k_dflt (refine' RtP.intro ?jw ?jB ?jT ?jF ?jN ?js; (case jF => assumption); (case jN => assumption); (case jB => assumption); (case jT => exact KtsTurn.refl); (case js => walk_at "zJ"); (case jw => exact ⟨fun e => absurd e (by decide), fun z => absurd z hn⟩)))
    · have so := hlb.mp rfl
      clear hlb
      by_cases er : k = "rgb"
      · subst er
        k_steps
        all_goals (unfold Hold; k_dflt (refine' RtP.intro ?jw ?jB ?jT ?jF ?jN ?js; (case jF => assumption); (case jN => assumption); (case jB => assumption); (case jT => exact KtsTurn.refl); (case js => walk_at "zJ"); (case jw => exact place_iff so hH)))
      · k_steps
        all_goals first
          | exact absurd (beq_iff_eq.mp (by assumption : (k == ("rgb" : Str)) = true)) er
          | (unfold Hold; k_dflt (refine' RtP.intro ?jw ?jB ?jT ?jF ?jN ?js; (case jF => assumption); (case jN => assumption); (case jB => assumption); (case jT => exact KtsTurn.refl); (case js => walk_at "zJ"); (case jw => first | exact ⟨fun e => absurd e (by decide), fun z => absurd z.rgb er⟩ | exact ⟨fun e => absurd (beq_iff_eq.mp e) er, fun z => absurd z.rgb er⟩)))
  intro g6 h6 tk6 hp hw B6 U6 F6 N6
  have X6 := X.keeps B6.stays
  have T6 := T.keeps B6.stays
  replace TT := TT.trans U6
  clear F5 N5 U6 B4 X4 T4 hlb
  k_sweep
  k_steps
  unfold Hold
  refine rt_block ((178 : Nat) : Int) ((20 : Nat) : Int) B6 F6 N6 ?_ ?_
  · k_steps
    ((unfold Hold; k_dflt (refine' result_line (Pv := (fun v nx => (∃ bs t, v = .bytes bs t) ∧ WithOk k wd ht P O H)) (Pr := (¬ WithOk k wd ht P O H)) ?B₉ ?F₉ ?N₉ ?X₉ ?T₉ ?hf₉ ?hke₉ ?fn₉ ?hd₉ ?hu₉ ?_ ?_ ?_; walk_at "zA"; (case fn₉ => exact FnAt.of (by k_asm) (by k_mem)); walk_at "zD")))
    · k_extra "zdeed_go"
    · rintro v nx h' tk' ⟨⟨bs, t, rfl⟩, so⟩ hne Nx F' N'
      have e := hw.mpr so
      subst e
      clear hw
      clear hne Nx
      k_sweep
      k_steps
      all_goals (unfold Hold; k_dflt (refine' RtC.intro ?jB ?jT ?jF ?jN ?jm ?js; (case jT => exact KtsTurn.refl); (case jF => assumption); (case jN => assumption); (case jB => assumption); (case jm => k_mem); (case js => walk_at "zJ")))
    · intro t h₁ h' tk' npr T₁' B' X' T' F' N'
      have e := bool_not hw npr
      subst e
      clear hw npr
      k_sweep
      k_steps
      all_goals (unfold Hold; k_dflt (refine' RtC.intro ?jB ?jT ?jF ?jN ?jm ?js; (case jT => exact T₁'); (case jF => assumption); (case jN => assumption); (case jB => assumption); (case jm => k_mem); (case js => walk_at "zJ")))
  intro g7 h7 tk7 cc7 B7 U7 F7 N7
  have X7 := X.keeps B7.stays
  have T7 := T.keeps B7.stays
  replace TT := TT.trans U7
  clear F6 N6 U7 B6 X6 T6
  k_sweep
  k_steps
  ((k_dflt (refine' hret _ _ _ (KpG.of hkp (fun q hq => ⟨(hown q hq).1, (hown q hq).2.2⟩) TT ?F ?N ?sub) ?g ⟨_, ?gt⟩; (case gt => exact News.get (by assumption) (by k_mem)); (case F => assumption); (case N => assumption); (case g => exact News.get (by assumption) (by k_mem)); (case sub => exact sub4 (List.Mem.head _) (by k_mem) (by k_mem) (.tail _ (List.Mem.head _))))))
end
section
theorem lay_56_0 : True := by
  k_with "subscriptTail" => (k_here; (with_reducible show wpAny _ (Around.deeper _ (envOf (Str.ofString "_law_small") _ _ _ _)) _ _ _ _); (with_reducible show wpAny _ _ (subscriptTail _ _ (Value.ref _) (Value.int _ _)) _ _ _); k_dflt (first | (refine' item_kind ?N₉ ?m₉ ?w₉ ?h0₉ ?h1₉ ?h2₉ ?_; (case N₉ => k_asm); (case m₉ => k_mem); (case w₉ => (intro v hv; simp only [List.mem_cons, List.not_mem_nil, or_false] at hv; rcases hv with e | e | e | e | e | e; exact ⟨_, _, e, Or.inl rfl⟩; exact ⟨_, _, e, Or.inr (Or.inl rfl)⟩; exact ⟨_, _, e, Or.inr (Or.inl rfl)⟩; exact ⟨_, _, e, Or.inr (Or.inr (Or.inl rfl))⟩; exact ⟨_, _, e, Or.inr (Or.inr (Or.inl rfl))⟩; exact ⟨_, _, e, Or.inr (Or.inr (Or.inr rfl))⟩)); (case h0₉ => assumption); (case h1₉ => assumption); (case h2₉ => omega); intro kk'₉ kt'₉ hkk'₉) | (refine' item_range ?N₉ ?m₉ ?w₉ ?h0₉ ?h1₉ ?h2₉ ?_; (case N₉ => k_asm); (case m₉ => k_mem); (case w₉ => (intro v hv; simp only [List.mem_cons, List.not_mem_nil, or_false] at hv; rcases hv with e | e | e | e <;> exact ⟨_, _, e, by decide, by decide⟩)); (case h0₉ => assumption); (case h1₉ => assumption); (case h2₉ => omega); intro iv'₉ it'₉ hi0'₉ hi1'₉)))
  k_with "binaryOp Mult bytes int" => (k_here; (with_reducible show wpAny _ (Around.deeper _ (envOf (Str.ofString "_law_small") _ _ _ _)) _ _ _ _); (with_reducible show wpAny _ _ (binaryOp Operator.Mult (Value.bytes _ _) (Value.int _ _)) _ _ _); (refine bytes_mul1 rfl (by omega) (by omega) ?_); intro mB'₉ mt'₉ mk'₉ mh'₉)
  k_with "call builtin:dict.get" => (k_here; (with_reducible show wpAny _ (Around.deeper _ (envOf (Str.ofString "_law_small") _ _ _ _)) _ _ _ _); (fail_if_success (with_reducible show wpAny _ _ _ (fun _ s => ∃ _, _) _ _)); refine Hold.of ?_)
  k_with "execs cons" => (k_here; (with_reducible show wpAny _ (Around.deeper _ (envOf (Str.ofString "_law_small") _ _ _ _)) _ _ _ _); (with_reducible show wpAny _ _ (execs (_ :: _ :: _) (envOf (Str.ofString "_law_small") _ _ _ _)) _ _ _); refine Hold.of ?_)
  trivial
theorem Fr.as {g h : Heap} {L : Addr} {m m' : Str → Option Value} (F : Fr g L h m) (e : ∀ y, m y = m' y) : Fr g L h m' := by
  have q : m = m' := funext e
  rw [← q]; exact F
theorem look1 {k y : Str} {v : Value} : List.lookup y [(k, v)] = if y = k then some v else none := by
  by_cases h : y = k
  · subst h; simp [List.lookup]
  · have q : (y == k) = false := by simp [h]
    simp [List.lookup, q, h]
/-- the names of _law_small -/
noncomputable def mSm (src : Addr) (vk vw vh vz vp vr : Option Value) : Str → Option Value := fun y =>
  if y = "source" then some (.ref src) else if y = "kind" then vk else if y = "width" then vw else if y = "height" then vh else if y = "size" then vz else if y = "palette" then vp else if y = "wrong" then vr else none
/-- a statement of _law_small is done: the ledger is the source alone -/
def SmK (s : Shared) (g : Heap) (L src : Addr) (P : Option Value → Option Value → Option Value → Option Value → Option Value → Option Value → Prop) (fl : Flow) (s' : Shared) : Prop :=
  fl = .next ∧ ∃ vk vw vh vz vp vr R h' tk', P vk vw vh vz vp vr ∧ Fr g L h' (mSm src vk vw vh vz vp vr) ∧ News g L h' [(src, srcO R)] ∧ s' = { s with heap := h', toks := tk' }
theorem SmK.intro {s : Shared} {g h' : Heap} {L src : Addr} {P : Option Value → Option Value → Option Value → Option Value → Option Value → Option Value → Prop} {m : Str → Option Value} {news : List (Addr × Obj)} {tk' : Nat} {R : SrcR} (vk vw vh vz vp vr : Option Value)
    (hm : (src, srcO R) ∈ news) (F : Fr g L h' m) (N : News g L h' news) (p : P vk vw vh vz vp vr) (e : ∀ z, m z = mSm src vk vw vh vz vp vr z) : SmK s g L src P .next { s with heap := h', toks := tk' } :=
  ⟨rfl, vk, vw, vh, vz, vp, vr, R, h', tk', p, Fr.as F e, fun q hq => by cases List.mem_singleton.mp hq; exact N _ hm, rfl⟩
theorem sm_next {M : Model} {A : Around} {E : Value → Shared → Prop} {env : Env} {S : Stmt} {rest : List Stmt} {Q : Flow → Shared → Prop} {s : Shared} {g : Heap} {L src : Addr} (P : Option Value → Option Value → Option Value → Option Value → Option Value → Option Value → Prop)
    (h1 : wpAny M A (exec S env) (SmK s g L src P) E s)
    (h2 : ∀ vk vw vh vz vp vr R h' tk', P vk vw vh vz vp vr → Fr g L h' (mSm src vk vw vh vz vp vr) → News g L h' [(src, srcO R)] → wpAny M A (execs rest env) Q E { s with heap := h', toks := tk' }) :
    wpAny M A (execs (S :: rest) env) Q E s := by
  refine wpAny_execs_cons (wpAny_mono h1 (fun fl s1 h => ?_) fun _ _ x => x)
  obtain ⟨rfl, vk, vw, vh, vz, vp, vr, R, h', tk', p, F, N, rfl⟩ := h
  exact h2 vk vw vh vz vp vr R h' tk' p F N
theorem nms : (("kind" : Str) ≠ "source" ∧ ("width" : Str) ≠ "source" ∧ ("height" : Str) ≠ "source" ∧ ("size" : Str) ≠ "source" ∧ ("palette" : Str) ≠ "source" ∧ ("wrong" : Str) ≠ "source") ∧ (("width" : Str) ≠ "kind" ∧ ("height" : Str) ≠ "kind" ∧ ("size" : Str) ≠ "kind" ∧ ("palette" : Str) ≠ "kind" ∧ ("wrong" : Str) ≠ "kind") ∧ (("height" : Str) ≠ "width" ∧ ("size" : Str) ≠ "width" ∧ ("palette" : Str) ≠ "width" ∧ ("wrong" : Str) ≠ "width") ∧ (("size" : Str) ≠ "height" ∧ ("palette" : Str) ≠ "height" ∧ ("wrong" : Str) ≠ "height") ∧ (("palette" : Str) ≠ "size" ∧ ("wrong" : Str) ≠ "size") ∧ ("wrong" : Str) ≠ "palette" := by decide +kernel
section
variable {src : Addr} {vk vw vh vz vp vr v v2 : Option Value}
theorem m_kind (y : Str) : (if y = "kind" then v else mSm src vk vw vh vz vp vr y) = mSm src v vw vh vz vp vr y := by
  have q := nms; unfold mSm; by_cases h : y = "kind" <;> simp [h, q]
theorem m_dims (y : Str) : (if y = "width" then v else if y = "height" then v2 else mSm src vk vw vh vz vp vr y) = mSm src vk v v2 vz vp vr y := by
  have q := nms
  unfold mSm
  by_cases h : y = "width"
  · have h2 : y ≠ "kind" := h ▸ q.2.1.1
    have h3 : y ≠ "source" := h ▸ q.1.2.1
    rw [if_pos h, if_neg h3, if_neg h2, if_pos h]
  · by_cases h' : y = "height"
    · have h2 : y ≠ "kind" := h' ▸ q.2.1.2.1
      have h3 : y ≠ "source" := h' ▸ q.1.2.2.1
      rw [if_neg h, if_pos h', if_neg h3, if_neg h2, if_neg h, if_pos h']
    · simp [h, h']
theorem m_dimsH (y : Str) : (if y = "height" then v2 else if y = "width" then v else mSm src vk vw vh vz vp vr y) = mSm src vk v v2 vz vp vr y := by
  have q := nms
  unfold mSm
  by_cases h : y = "height"
  · have h' : y ≠ "width" := h ▸ q.2.2.1.1
    have h2 : y ≠ "kind" := h ▸ q.2.1.2.1
    have h3 : y ≠ "source" := h ▸ q.1.2.2.1
    rw [if_pos h, if_neg h3, if_neg h2, if_neg h', if_pos h]
  · by_cases h' : y = "width"
    · have h2 : y ≠ "kind" := h' ▸ q.2.1.1
      have h3 : y ≠ "source" := h' ▸ q.1.2.1
      rw [if_neg h, if_pos h', if_neg h3, if_neg h2, if_pos h']
    · simp [h, h']
theorem m_same (y : Str) : mSm src vk vw vh vz vp vr y = mSm src vk vw vh vz vp vr y := rfl
theorem m_size (y : Str) : (if y = "size" then v else mSm src vk vw vh vz vp vr y) = mSm src vk vw vh v vp vr y := by
  have q := nms; unfold mSm; by_cases h : y = "size" <;> simp [h, q]
theorem m_pal (y : Str) : (if y = "palette" then v else mSm src vk vw vh vz vp vr y) = mSm src vk vw vh vz v vr y := by
  have q := nms; unfold mSm; by_cases h : y = "palette" <;> simp [h, q]
theorem m_wrong (y : Str) : (if y = "wrong" then v else mSm src vk vw vh vz vp vr y) = mSm src vk vw vh vz vp v y := by
  have q := nms; unfold mSm; by_cases h : y = "wrong" <;> simp [h, q]
end
theorem dm_ok {k : Str} {wd ht : Int} {P O : Array UInt8} (h : (0 ≤ wd ∧ wd ≤ 3 ∧ 0 ≤ ht ∧ ht ≤ 2) ∨ 255 < wd ∨ ht < 0) (so : SmallOk k wd ht P O) : wd ≤ 3 ∧ ht ≤ 2 := by
  have := so.w1; have := so.h0; omega
theorem small_mk {w : World} {p : Program} {loose : List Str} {mean : ExcName → Option Value} {mg mb : Str → Option Value}
    {dp un : Nat} {gd : Option (List Code)} {l : List Env} {base : Heap} {s : Shared} {Q E : Value → Shared → Prop} {src : Addr} {R : SrcR}
    (B : Below (Ar dp un gd l) base l s.heap) (X : (Mine.pre.heap_1 w.params).In base) (T : Top p loose mean mg mb base)
    (hs : s.heap.get? src = some (srcO R)) (hsb : base.get? src = none) (hsl : src ∉ l.filterMap (·.frame))
    (hd : dp + 40 < recursionLimit) (hu : un + 200 < cLine)
    (hret : ∀ (x dx : Addr) (k : Str) (wd ht : Int) (P O : Array UInt8) (u0 u1 u2 u3 u4 : Tok) (t1 t2 t3 t4 t5 : Tok) (R' : SrcR) (h' : Heap) (tk' : Nat),
      KindOk k → P.size ≤ 1000000 → O.size ≤ 1000000 → (SmallOk k wd ht P O → k ≠ "jpeg" → wd ≤ 3 ∧ ht ≤ 2) → @LT.lt Nat _ dx x → s.heap.get? x = none → s.heap.get? dx = none → @LT.lt Nat _ src dx →
      Kp [src] s.heap h' → h'.get? src = some (srcO R') → h'.get? x = some (instObj 91 dx) → h'.get? dx = some (thumbD w t1 t2 t3 t4 t5 k u0 wd u1 ht u2 P u3 O u4) → Q (.ref x) { s with heap := h', toks := tk' }) :
    wpAny (model PySem.Challenge.rw_ok0139_01.row.prog w) (Ar dp un gd l) (call (.ref 186) [.ref src]) Q E s := by
  revert X
  k_fill
  intro X
  refine wpAny_call ?_
  have hown : ∀ q ∈ [(src, srcO R)], s.heap.get? q.1 = some q.2 ∧ base.get? q.1 = none ∧ q.1 ∉ l.filterMap (·.frame) := by
    intro q hq; cases List.mem_singleton.mp hq; exact ⟨hs, hsb, hsl⟩
  k_dflt (refine' enter_raw (own := [(src, srcO R)]) B X T hown ?k6 ?k7 ?k8 ?k9 ?kB ?_ ?c2 ?c3 ?c4 ?c5)
  case k6 => k_is
  case k7 => k_is
  case k8 => exact room0 hd
  case k9 => exact BindsTo.of_eq rfl
  case c5 => decide
  case kB => exact locs rfl
  case c2 => exact rfl
  case c3 => exact rfl
  case c4 => exact rfl
  intro g' L' h' hkp F' N' B' X' T' l1
  (try k_lt l1)
  clear hs
  replace F' : Fr g' L' h' (mSm src none none none none none none) := Fr.as F' fun y => by
    show List.lookup y [(("source" : Str), Value.ref src)] = _
    rw [look1]; unfold mSm; split <;> simp
  (try dsimp only); (try k_fold)
  k_steps
  unfold Hold
  refine sm_next (g := g') (L := L') (src := src) (fun vk vw vh vz vp vr => (∃ k tk, vk = some (.str k tk) ∧ KindOk k) ∧ vw = none ∧ vh = none ∧ vz = none ∧ vp = none ∧ vr = none) ?_ ?_
  · k_steps
    k_dflt (refine' SmK.intro _ _ _ _ _ _ ?jm ?jF ?jN ?jp ?je; (case jF => assumption); (case jN => assumption); (case jm => k_mem); (case je => exact m_kind); (case jp => exact ⟨⟨_, _, rfl, by assumption⟩, rfl, rfl, rfl, rfl, rfl⟩))
  rintro vk vw vh vz vp vr R₁ h₁ tk₁ ⟨⟨k, tkk, rfl, hkk⟩, rfl, rfl, rfl, rfl, rfl⟩ F' N'
  (try dsimp only)
  k_steps
  unfold Hold
  refine sm_next (g := g') (L := L') (src := src) (fun vk vw vh vz vp vr => ∃ wd tw ht th, vk = some (.str k tkk) ∧ vw = some (.int wd tw) ∧ vh = some (.int ht th) ∧ 0 ≤ wd ∧ wd ≤ 3 ∧ 0 ≤ ht ∧ ht ≤ 2 ∧ vz = none ∧ vp = none ∧ vr = none) ?_ ?_
  · k_steps
    k_dflt (refine' SmK.intro _ _ _ _ _ _ ?jm ?jF ?jN ?jp ?je; (case jF => assumption); (case jN => assumption); (case jm => k_mem); (case je => exact m_dims); (case jp => exact ⟨_, _, _, _, rfl, rfl, rfl, by omega, by omega, by omega, by omega, rfl, rfl, rfl⟩))
  rintro vk vw vh vz vp vr R₁ h₁ tk₁ ⟨wd, tw, ht, th, rfl, rfl, rfl, w0, w3, t0, t2, rfl, rfl, rfl⟩ F' N'
  (try dsimp only)
  k_steps
  unfold Hold
  refine sm_next (g := g') (L := L') (src := src) (fun vk vw vh vz vp vr => ∃ z tz, vk = some (.str k tkk) ∧ vw = some (.int wd tw) ∧ vh = some (.int ht th) ∧ vz = some (.int z tz) ∧ 0 ≤ z ∧ z ≤ 869 ∧ vp = none ∧ vr = none) ?_ ?_
  · k_steps
    unfold Hold
    refine merge_int 0 100 ?_ ?_
    · rcases hkk with rfl | rfl | rfl | rfl
      all_goals k_steps
      all_goals first
        | exact (mulb (by omega) (by omega) (by omega) (by omega)).1
        | exact (mulb (by omega) (by omega) (by omega) (by omega)).2
        | omega
    · intro i it tk' hi0 hi1
      k_steps
      k_dflt (refine' SmK.intro _ _ _ _ _ _ ?jm ?jF ?jN ?jp ?je; (case jF => assumption); (case jN => assumption); (case jm => k_mem); (case je => exact m_size); (case jp => exact ⟨_, _, rfl, rfl, rfl, rfl, by omega, by omega, rfl, rfl⟩))
  rintro vk vw vh vz vp vr R₁ h₁ tk₁ ⟨z, tz, rfl, rfl, rfl, rfl, z0, z1, rfl, rfl⟩ F' N'
  (try dsimp only)
  k_steps
  unfold Hold
  refine sm_next (g := g') (L := L') (src := src) (fun vk vw vh vz vp vr => ∃ pb tp, vk = some (.str k tkk) ∧ vw = some (.int wd tw) ∧ vh = some (.int ht th) ∧ vz = some (.int z tz) ∧ vp = some (.bytes pb tp) ∧ pb.size ≤ 768 ∧ vr = none) ?_ ?_
  · k_steps
    all_goals k_dflt (refine' SmK.intro _ _ _ _ _ _ ?jm ?jF ?jN ?jp ?je; (case jF => assumption); (case jN => assumption); (case jm => k_mem); (case je => exact m_pal); (case jp => exact ⟨_, _, rfl, rfl, rfl, rfl, rfl, by first | omega | (simp; omega) | (simp; done), rfl⟩))
  rintro vk vw vh vz vp vr R₁ h₁ tk₁ ⟨pb, tp, rfl, rfl, rfl, rfl, rfl, hpb, rfl⟩ F' N'
  (try dsimp only)
  k_steps
  unfold Hold
  refine sm_next (g := g') (L := L') (src := src) (fun vk vw vh vz vp vr => ∃ wr tr, vk = some (.str k tkk) ∧ vw = some (.int wd tw) ∧ vh = some (.int ht th) ∧ vz = some (.int z tz) ∧ vp = some (.bytes pb tp) ∧ vr = some (.int wr tr)) ?_ ?_
  · k_steps
    k_dflt (refine' SmK.intro _ _ _ _ _ _ ?jm ?jF ?jN ?jp ?je; (case jF => assumption); (case jN => assumption); (case jm => k_mem); (case je => exact m_wrong); (case jp => exact ⟨_, _, rfl, rfl, rfl, rfl, rfl, rfl⟩))
  rintro vk vw vh vz vp vr R₁ h₁ tk₁ ⟨wr, tr, rfl, rfl, rfl, rfl, rfl, rfl⟩ F' N'
  (try dsimp only)
  k_steps
  unfold Hold
  refine sm_next (g := g') (L := L') (src := src) (fun vk vw vh vz vp vr => ∃ wd tw ht th, vk = some (.str k tkk) ∧ vw = some (.int wd tw) ∧ vh = some (.int ht th) ∧ vz = some (.int z tz) ∧ vp = some (.bytes pb tp) ∧ vr = some (.int wr tr) ∧ ((0 ≤ wd ∧ wd ≤ 3 ∧ 0 ≤ ht ∧ ht ≤ 2) ∨ 255 < wd ∨ ht < 0)) ?_ ?_
  · k_steps
    all_goals k_dflt (refine' SmK.intro _ _ _ _ _ _ ?jm ?jF ?jN ?jp ?je; (case jF => assumption); (case jN => assumption); (case jm => k_mem); (case je => first | exact m_dims | exact m_dimsH | exact m_same); (case jp => exact ⟨_, _, _, _, rfl, rfl, rfl, rfl, rfl, rfl, by first | assumption | omega⟩))
  rintro vk vw vh vz vp vr R₁ h₁ tk₁ ⟨wd, tw, ht, th, rfl, rfl, rfl, rfl, rfl, rfl, hD⟩ F' N'
  (try dsimp only)
  k_steps
  unfold Hold
  refine sm_next (g := g') (L := L') (src := src) (fun vk vw vh vz vp vr => ∃ wd tw ht th, vk = some (.str k tkk) ∧ vw = some (.int wd tw) ∧ vh = some (.int ht th) ∧ vz = some (.int z tz) ∧ vp = some (.bytes pb tp) ∧ vr = some (.int wr tr) ∧ ((0 ≤ wd ∧ wd ≤ 3 ∧ 0 ≤ ht ∧ ht ≤ 2) ∨ 255 < wd ∨ ht < 0)) ?_ ?_
  · k_steps
    all_goals k_dflt (refine' SmK.intro _ _ _ _ _ _ ?jm ?jF ?jN ?jp ?je; (case jF => assumption); (case jN => assumption); (case jm => k_mem); (case je => first | exact m_dims | exact m_dimsH | exact m_same); (case jp => exact ⟨_, _, _, _, rfl, rfl, rfl, rfl, rfl, rfl, by first | assumption | omega⟩))
  rintro vk vw vh vz vp vr R₁ h₁ tk₁ ⟨wd, tw, ht, th, rfl, rfl, rfl, rfl, rfl, rfl, hD⟩ F' N'
  (try dsimp only)
  k_steps
  unfold Hold
  refine sm_next (g := g') (L := L') (src := src) (fun vk vw vh vz vp vr => ∃ pb tp, vk = some (.str k tkk) ∧ vw = some (.int wd tw) ∧ vh = some (.int ht th) ∧ vz = some (.int z tz) ∧ vp = some (.bytes pb tp) ∧ vr = some (.int wr tr) ∧ pb.size ≤ 768) ?_ ?_
  · k_steps
    all_goals k_dflt (refine' SmK.intro _ _ _ _ _ _ ?jm ?jF ?jN ?jp ?je; (case jF => assumption); (case jN => assumption); (case jm => k_mem); (case je => first | exact m_pal | exact m_same); (case jp => exact ⟨_, _, rfl, rfl, rfl, rfl, rfl, rfl, by first | omega | (simp; omega) | (simp; done)⟩))
  rintro vk vw vh vz vp vr R₁ h₁ tk₁ ⟨pb, tp, rfl, rfl, rfl, rfl, rfl, rfl, hpb⟩ F' N'
  (try dsimp only)
  k_steps
  (k_dflt (refine' hret _ _ _ _ _ _ _ _ _ _ _ _ _ _ _ _ _ _ _ _ ?kk ?P ?O ?dims ?lt ?nx ?nd ?sd ?kp ?gs ?gx ?gd; (case gx => exact News.get (by assumption) (by k_mem)); (case gd => exact News.get (by assumption) (by k_mem)); (case gs => exact News.get (by assumption) (by k_mem)); (case kk => assumption); (case P => first | omega | (simp; omega) | (simp; done)); (case O => first | omega | (simp; omega) | (simp; done)); (case dims => exact fun so _ => dm_ok (by assumption) so); (case lt => omega); (case nx => exact fresh_raw hkp (by assumption) (by k_mem) (mem_one (by (show @Ne Nat _ _); omega))); (case nd => exact fresh_raw hkp (by assumption) (by k_mem) (mem_one (by (show @Ne Nat _ _); omega))); (case sd => omega); (case kp => exact fun b o e nb => Fr.keep (by assumption) b o (hkp b o e nb))))
end
/-- what a reading of a segment tells -/
inductive Rd
  | none
  | bad
  | row (k : Str) (w h : Int) (P O : Array UInt8)
open Classical in
noncomputable def mkRd (k : Str) (w h : Int) (P O : Array UInt8) : Rd := if SmallOk k w h P O then .row k w h P O else .bad
theorem mkRd_ok {k : Str} {w h : Int} {P O : Array UInt8} (z : SmallOk k w h P O) : mkRd k w h P O = .row k w h P O := if_pos z
theorem mkRd_bad {k : Str} {w h : Int} {P O : Array UInt8} (z : ¬ SmallOk k w h P O) : mkRd k w h P O = .bad := if_neg z
noncomputable def palP (k : Str) (b : Array UInt8) : Array UInt8 := if k = "palette" then KBy.picked b (some 2) (some 770) else #[]
noncomputable def palO (k : Str) (b : Array UInt8) : Array UInt8 := if k = "palette" then KBy.picked b (some 770) Option.none else KBy.picked b (some 2) Option.none
theorem palP_pal {b : Array UInt8} : palP "palette" b = KBy.picked b (some 2) (some 770) := if_pos rfl
theorem palO_pal {b : Array UInt8} : palO "palette" b = KBy.picked b (some 770) Option.none := if_pos rfl
theorem palP_rgb {k : Str} {b : Array UInt8} (h : k ≠ "palette") : palP k b = #[] := if_neg h
theorem palO_rgb {k : Str} {b : Array UInt8} (h : k ≠ "palette") : palO k b = KBy.picked b (some 2) Option.none := if_neg h
noncomputable def sizedRd (k : Str) (b : Array UInt8) : Rd :=
  if b.size < 2 then .bad else mkRd k ((b.toList.getD 0 0).toNat : Int) ((b.toList.getD 1 0).toNat : Int) (palP k b) (palO k b)
theorem sizedRd_short {k : Str} {b : Array UInt8} (h : b.size < 2) : sizedRd k b = .bad := if_pos h
theorem sizedRd_of {k : Str} {b P O : Array UInt8} {w h : Int} (hs : ¬ b.size < 2) (hw : w = ((b.toList.getD 0 0).toNat : Int)) (hh : h = ((b.toList.getD 1 0).toNat : Int)) (hP : P = palP k b) (hO : O = palO k b) : sizedRd k b = mkRd k w h P O := by
  subst hw hh hP hO; exact if_neg hs
/-- a slice of a slice -/
theorem pk_list {b : Array UInt8} {lo hi : Option Int} : (KBy.picked b lo hi).toList = (b.toList.drop (lo.elim 0 (clipAt b.size))).take (hi.elim b.size (clipAt b.size) - lo.elim 0 (clipAt b.size)) := by
  rw [KBc.picked_eq]
theorem clip_pos (n k : Nat) : clipAt n (k : Int) = min k n := by
  rw [clipAt_nat]
theorem min_add_tail {m n z : Nat} : min m z + min n (z - min m z) = min (m + n) z := by
  rcases Nat.le_total m z with h | h
  · rw [Nat.min_eq_left h, ← Nat.add_min_add_left, Nat.add_sub_cancel' h]
  · rw [Nat.min_eq_right h, Nat.sub_self, Nat.min_zero, Nat.add_zero, Nat.min_eq_right (Nat.le_trans h (Nat.le_add_right m n))]
theorem pk_tail_hi {b : Array UInt8} {m n : Nat} : KBy.picked (KBy.picked b (some (m : Int)) Option.none) Option.none (some (n : Int)) = KBy.picked b (some (m : Int)) (some ((m + n : Nat) : Int)) := by
  apply Array.toList_inj.mp
  have hz : (KBy.picked b (some (m : Int)) Option.none).size = b.size - min m b.size := by
    rw [← Array.length_toList, pk_list]; simp [clip_pos]
  have hl : (KBy.picked b (some (m : Int)) Option.none).toList = b.toList.drop (min m b.size) := by
    rw [pk_list]; simp only [Option.elim, clip_pos]; apply List.take_of_length_le; simp
  rw [pk_list (b := KBy.picked b (some (m : Int)) Option.none), hl, pk_list]
  simp only [Option.elim, clip_pos, hz, List.drop_zero, Nat.sub_zero]
  congr 1
  exact Nat.eq_sub_of_add_eq' min_add_tail
theorem pk_tail_tail {b : Array UInt8} {m n : Nat} : KBy.picked (KBy.picked b (some (m : Int)) Option.none) (some (n : Int)) Option.none = KBy.picked b (some ((m + n : Nat) : Int)) Option.none := by
  apply Array.toList_inj.mp
  have hz : (KBy.picked b (some (m : Int)) Option.none).size = b.size - min m b.size := by
    rw [← Array.length_toList, pk_list]; simp [clip_pos]
  have hl : (KBy.picked b (some (m : Int)) Option.none).toList = b.toList.drop (min m b.size) := by
    rw [pk_list]; simp only [Option.elim, clip_pos]; apply List.take_of_length_le; simp
  rw [pk_list (b := KBy.picked b (some (m : Int)) Option.none), hl, pk_list]
  simp only [Option.elim, clip_pos, hz]
  rw [List.take_of_length_le (by simp; omega), List.take_of_length_le (by simp), List.drop_drop]
  rcases Nat.le_total b.size (m + n) with h | h
  · rw [List.drop_eq_nil_of_le (by rw [min_add_tail, Nat.min_eq_right h, Array.length_toList]; exact Nat.le_refl _), List.drop_eq_nil_of_le (by rw [Nat.min_eq_right h, Array.length_toList]; exact Nat.le_refl _)]
  · rw [min_add_tail]
theorem sized_pal {k : Str} {b : Array UInt8} {w h : Int} (hk : k = "palette") (hs : ¬ (b.size : Int) < 2) (hw : w = ((b.toList.getD (Int.toNat 0) 0).toNat : Int)) (hh : h = ((b.toList.getD (Int.toNat 1) 0).toNat : Int)) :
    sizedRd k b = mkRd k w h (KBy.picked (KBy.picked b (some 2) Option.none) Option.none (some 768)) (KBy.picked (KBy.picked b (some 2) Option.none) (some 768) Option.none) := by
  subst hk
  exact sizedRd_of (by omega) hw hh (palP_pal.symm ▸ pk_tail_hi (m := 2) (n := 768)) (palO_pal.symm ▸ pk_tail_tail (m := 2) (n := 768))
theorem sized_rgb {k : Str} {b : Array UInt8} {w h : Int} (hk : k ≠ "palette") (hs : ¬ (b.size : Int) < 2) (hw : w = ((b.toList.getD (Int.toNat 0) 0).toNat : Int)) (hh : h = ((b.toList.getD (Int.toNat 1) 0).toNat : Int)) :
    sizedRd k b = mkRd k w h #[] (KBy.picked b (some 2) Option.none) :=
  sizedRd_of (by omega) hw hh (palP_rgb hk).symm (palO_rgb hk).symm
noncomputable abbrev pre5 (p : Array UInt8) : List UInt8 := (KBy.picked p Option.none (some 5)).toList
/-- the reading of a segment -/
noncomputable def readRd (p : Array UInt8) : Rd :=
  if pre5 p = [74, 70, 73, 70, 0] then
    match sizedRd "rgb" (KBy.picked p (some 12) Option.none) with
    | .row k w h P O => if O.toList = [] then .none else .row k w h P O
    | r => r
  else if pre5 p ≠ [74, 70, 88, 88, 0] then .none
  else if p.size = 5 then .bad
  else if ((p.toList.getD 5 0).toNat : Int) = 16 then .row "jpeg" 0 0 #[] (KBy.picked p (some 6) Option.none)
  else if ((p.toList.getD 5 0).toNat : Int) = 17 then sizedRd "palette" (KBy.picked p (some 6) Option.none)
  else if ((p.toList.getD 5 0).toNat : Int) = 19 then sizedRd "rgb" (KBy.picked p (some 6) Option.none)
  else .bad
theorem readRd_jf {p : Array UInt8} (h : pre5 p = [74, 70, 73, 70, 0]) {k : Str} {w ht : Int} {P O : Array UInt8} (z : sizedRd "rgb" (KBy.picked p (some 12) Option.none) = .row k w ht P O) : (O.toList = [] → readRd p = .none) ∧ (¬ O.toList = [] → readRd p = .row k w ht P O) := by
  unfold readRd
  rw [if_pos h, z]
  exact ⟨fun q => if_pos q, fun q => if_neg q⟩
theorem readRd_jfbad {p : Array UInt8} (h : pre5 p = [74, 70, 73, 70, 0]) (z : sizedRd "rgb" (KBy.picked p (some 12) Option.none) = .bad) : readRd p = .bad := by
  unfold readRd
  rw [if_pos h, z]
theorem readRd_none {p : Array UInt8} (h : ¬ pre5 p = [74, 70, 73, 70, 0]) (h2 : ¬ pre5 p = [74, 70, 88, 88, 0]) : readRd p = .none := by
  unfold readRd
  rw [if_neg h, if_pos h2]
theorem readRd_jx {p : Array UInt8} (h2 : pre5 p = [74, 70, 88, 88, 0]) : readRd p = (if p.size = 5 then .bad
  else if ((p.toList.getD 5 0).toNat : Int) = 16 then .row "jpeg" 0 0 #[] (KBy.picked p (some 6) Option.none)
  else if ((p.toList.getD 5 0).toNat : Int) = 17 then sizedRd "palette" (KBy.picked p (some 6) Option.none)
  else if ((p.toList.getD 5 0).toNat : Int) = 19 then sizedRd "rgb" (KBy.picked p (some 6) Option.none)
  else .bad) := by
  unfold readRd
  rw [if_neg (by rw [h2]; decide), if_neg (by simpa using h2)]
theorem pk_empty {b : Array UInt8} : KBy.picked b (some 2) (some 2) = #[] := by
  apply Array.toList_inj.mp
  rw [pk_list]
  simp
theorem lsized_pal {k : Str} {b : Array UInt8} {w h : Int} (hk : k = "palette") (hs : ¬ (b.size : Int) < 2) (hw : w = ((b.toList.getD (Int.toNat 0) 0).toNat : Int)) (hh : h = ((b.toList.getD (Int.toNat 1) 0).toNat : Int)) :
    sizedRd k b = mkRd k w h (KBy.picked b (some 2) (some 770)) (KBy.picked b (some 770) Option.none) := by
  subst hk
  exact sizedRd_of (by omega) hw hh palP_pal.symm palO_pal.symm
theorem lsized_rgb {k : Str} {b : Array UInt8} {w h : Int} (hk : k ≠ "palette") (hs : ¬ (b.size : Int) < 2) (hw : w = ((b.toList.getD (Int.toNat 0) 0).toNat : Int)) (hh : h = ((b.toList.getD (Int.toNat 1) 0).toNat : Int)) :
    sizedRd k b = mkRd k w h (KBy.picked b (some 2) (some 2)) (KBy.picked b (some 2) Option.none) :=
  sizedRd_of (by omega) hw hh (by rw [pk_empty, palP_rgb hk]) (palO_rgb hk).symm
theorem checked_raw {w : World} {p : Program} {loose : List Str} {mean : ExcName → Option Value} {mg mb : Str → Option Value}
    {dp un : Nat} {gd : Option (List Code)} {l : List Env} {base : Heap} {s : Shared} {Q E : Value → Shared → Prop} {x dx : Addr} {k : Str} {wd ht : Int} {P O : Array UInt8} {u0 u1 u2 u3 u4 : Tok} {t1 t2 t3 t4 t5 : Tok}
    (B : Below (Ar dp un gd l) base l s.heap) (X : (Mine.pre.heap_1 w.params).In base) (T : Top p loose mean mg mb base)
    (hx : s.heap.get? x = some (instObj 91 dx)) (hdx : s.heap.get? dx = some (thumbD w t1 t2 t3 t4 t5 k u0 wd u1 ht u2 P u3 O u4))
    (hxb : base.get? x = none) (hdb : base.get? dx = none) (hxl : x ∉ l.filterMap (·.frame)) (hdl : dx ∉ l.filterMap (·.frame)) (hxd : @LT.lt Nat _ dx x)
    (hd : dp + 30 < recursionLimit) (hu : un + 150 < cLine) (hkk : KindOk k) (hP : P.size ≤ 1000000) (hO : O.size ≤ 1000000)
    (hret : ∀ (h' : Heap) (tk' : Nat), SmallOk k wd ht P O → Kp [] s.heap h' → Q (.ref x) { s with heap := h', toks := tk' })
    (hraz : ∀ (e : Addr) (h' : Heap) (tk' : Nat), ¬ SmallOk k wd ht P O → Raz base s.heap l [] e h' → E (.ref e) { s with heap := h', toks := tk' }) :
    wpAny (model PySem.Challenge.rw_ok0139_01.row.prog w) (Ar dp un gd l) (call (.ref 116) [.ref x]) Q E s := by
  revert X
  k_fill
  intro X
  refine wpAny_call ?_
  have hown : ∀ q ∈ [(x, instObj 91 dx), (dx, thumbD w t1 t2 t3 t4 t5 k u0 wd u1 ht u2 P u3 O u4)], s.heap.get? q.1 = some q.2 ∧ base.get? q.1 = none ∧ q.1 ∉ l.filterMap (·.frame) := by
    intro q hq; rcases List.mem_cons.mp hq with rfl | hq; exact ⟨hx, hxb, hxl⟩; cases List.mem_singleton.mp hq; exact ⟨hdx, hdb, hdl⟩
  k_dflt (refine' enter_raw (own := [(x, instObj 91 dx), (dx, thumbD w t1 t2 t3 t4 t5 k u0 wd u1 ht u2 P u3 O u4)]) B X T hown ?k6 ?k7 ?k8 ?k9 ?kB ?_ ?c2 ?c3 ?c4 ?c5)
  case k6 => k_is
  case k7 => k_is
  case k8 => exact room0 hd
  case k9 => exact BindsTo.of_eq rfl
  case c5 => decide
  case kB => exact locs rfl
  case c2 => exact rfl
  case c3 => exact rfl
  case c4 => exact rfl
  intro g' L' h' hkp F' N' B' X' T' l1
  clear hx hdx
  (try dsimp only); (try k_fold)
  k_steps
  all_goals (try dsimp only)
  all_goals first
    | exact hret _ _ (by assumption) (Kp.of hkp (fun q hq => (hown q hq).1) (by assumption) (by assumption) (by kcj_all))
    | exact hraz _ _ _ (by assumption) (Raz.raw hkp (fun q hq => (hown q hq).1) (by kcj_all) (by assumption))
theorem checked_line {w : World} {p : Program} {loose : List Str} {mean : ExcName → Option Value} {mg mb : Str → Option Value}
    {dp un : Nat} {gd : Option (List Code)} {outer : List Env} {env : Env} {base h₀ : Heap} {L : Addr} {m : Str → Option Value} {news : List (Addr × Obj)} {s : Shared} {Q E : Value → Shared → Prop}
    {x dx : Addr} {k : Str} {wd ht : Int} {P O : Array UInt8} {u0 u1 u2 u3 u4 : Tok} {t1 t2 t3 t4 t5 : Tok}
    (B : Below (Ar dp un gd outer) base outer h₀) (F : Fr h₀ L s.heap m) (N : News h₀ L s.heap news) (X : (Mine.pre.heap_1 w.params).In base) (T : Top p loose mean mg mb base) (hf : env.frame = some L) (hke : env.scope.kind = .function)
    (mx : (x, instObj 91 dx) ∈ news) (mdx : (dx, thumbD w t1 t2 t3 t4 t5 k u0 wd u1 ht u2 P u3 O u4) ∈ news) (hkk : KindOk k) (hxd : @LT.lt Nat _ dx x) (hP : P.size ≤ 1000000) (hO : O.size ≤ 1000000)
    (hd : dp + 31 < recursionLimit) (hu : un + 153 < cLine)
    (hret : ∀ (h' : Heap) (tk' : Nat), SmallOk k wd ht P O → Fr h₀ L h' m → News h₀ L h' news → Q (.ref x) { s with heap := h', toks := tk' })
    (hraz : ∀ (e : Addr) (h' : Heap) (tk' : Nat), ¬ SmallOk k wd ht P O → Raz base s.heap (env :: outer) [] e h' → E (.ref e) { s with heap := h', toks := tk' }) :
    wpAny (model PySem.Challenge.rw_ok0139_01.row.prog w) ((Ar dp un gd outer).deeper env) (call (.ref 116) [.ref x]) Q E s := by
  refine checked_raw (dp := dp + 1) (un := un + 3) (l := env :: outer) (gd := gd) (below_here B F hf hke) X T (N _ mx).1 (N _ mdx).1 (none_base B (N _ mx).2.2) (none_base B (N _ mdx).2.2) (not_frame B N hf mx) (not_frame B N hf mdx) hxd (room2 hd rfl) (room2 hu rfl) hkk hP hO
    (fun h' tk' so k => hret h' tk' so (F.keeps fun b o e => k b o e (fun z => nomatch z)) fun q hq => ⟨k _ _ (N q hq).1 (fun z => nomatch z), (N q hq).2⟩) hraz

theorem lay_59 : True := by
  k_with "call ref" => (k_here; (with_reducible show wpAny _ _ (call (Value.ref 116) _) _ _ _); k_dflt (refine' checked_line ?B₉ ?F₉ ?N₉ ?X₉ ?T₉ ?hf₉ ?hke₉ ?mx₉ ?md₉ ?kk₉ ?xd₉ ?hP₉ ?hO₉ ?hd₉ ?hu₉ ?_ ?_; walk_at "zA"; walk_at "zM"; walk_at "zD"); all_goals first | (intro h'₉ tk'₉ so'₉ F'₉ N'₉; (have sa0 := SmallOk.ng so'₉); (have sa1 := SmallOk.w0 so'₉); (have sa2 := SmallOk.w1 so'₉); (have sa3 := SmallOk.h0 so'₉); (have sa4 := SmallOk.h1 so'₉); k_sweep) | (intro e'₉ h'₉ tk'₉ so'₉ R'₉))
  trivial

theorem sized_raw {w : World} {p : Program} {loose : List Str} {mean : ExcName → Option Value} {mg mb : Str → Option Value}
    {dp un : Nat} {gd : Option (List Code)} {l : List Env} {base : Heap} {s : Shared} {Q E : Value → Shared → Prop} {k : Str} {tk0 tb0 : Tok} {b : Array UInt8}
    (B : Below (Ar dp un gd l) base l s.heap) (X : (Mine.pre.heap_1 w.params).In base) (T : Top p loose mean mg mb base)
    (hd : dp + 40 < recursionLimit) (hu : un + 200 < cLine) (hk : k = "palette" ∨ k = "rgb") (hkk : KindOk k) (hb : b.size ≤ 10000)
    (hret : ∀ (x dx : Addr) (wd ht : Int) (P O : Array UInt8) (u0 u1 u2 u3 u4 : Tok) (t1 t2 t3 t4 t5 : Tok) (h' : Heap) (tk' : Nat), sizedRd k b = .row k wd ht P O → P.size ≤ 1000000 → O.size ≤ 1000000 → @LT.lt Nat _ dx x → s.heap.get? x = none → s.heap.get? dx = none →
      Kp [] s.heap h' → h'.get? x = some (instObj 91 dx) → h'.get? dx = some (thumbD w t1 t2 t3 t4 t5 k u0 wd u1 ht u2 P u3 O u4) → Q (.ref x) { s with heap := h', toks := tk' })
    (hraz : ∀ (e : Addr) (h' : Heap) (tk' : Nat), sizedRd k b = .bad → Raz base s.heap l [] e h' → E (.ref e) { s with heap := h', toks := tk' }) :
    wpAny (model PySem.Challenge.rw_ok0139_01.row.prog w) (Ar dp un gd l) (call (.ref 123) [.str k tk0, .bytes b tb0]) Q E s := by
  revert X
  k_fill
  intro X
  refine wpAny_call ?_
  k_dflt (refine' enter_raw (own := []) B X T (fun _ hq => nomatch hq) ?k6 ?k7 ?k8 ?k9 ?kB ?_ ?c2 ?c3 ?c4 ?c5)
  case k6 => k_is
  case k7 => k_is
  case k8 => exact room0 hd
  case k9 => exact BindsTo.of_eq rfl
  case c5 => decide
  case kB => exact locs rfl
  case c2 => exact rfl
  case c3 => exact rfl
  case c4 => exact rfl
  intro g' L' h' hkp F' N' B' X' T' l1
  (try dsimp only); (try k_fold)
  k_steps
  all_goals first
    | exact hraz _ _ _ (sizedRd_short (by omega)) (Raz.raw hkp (fun q hq => nomatch hq) (fun q hq => nomatch hq) (by assumption))
    | exact hraz _ _ _ ((sized_pal (beq_iff_eq.mp (by assumption)) (by assumption) (by assumption) (by assumption)).trans (mkRd_bad (by assumption))) (Raz.raw hkp (fun q hq => nomatch hq) (fun q hq => nomatch hq) (by assumption))
    | exact hraz _ _ _ ((sized_rgb (beq_eq_false_iff_ne.mp (by assumption)) (by assumption) (by assumption) (by assumption)).trans (mkRd_bad (by assumption))) (Raz.raw hkp (fun q hq => nomatch hq) (fun q hq => nomatch hq) (by assumption))
    | (refine hret _ _ _ _ _ _ _ _ _ _ _ _ _ _ _ _ _ _ ?s ?P ?O ?lt ?nx ?nd (Kp.of hkp (fun q hq => nomatch hq) (by assumption) (by assumption) (fun q hq => nomatch hq)) (News.get (by assumption) (List.Mem.head _)) (News.get (by assumption) (.tail _ (List.Mem.head _)))
       case s => first
         | exact (sized_pal (beq_iff_eq.mp (by assumption)) (by assumption) (by assumption) (by assumption)).trans (mkRd_ok (by assumption))
         | exact (sized_rgb (beq_eq_false_iff_ne.mp (by assumption)) (by assumption) (by assumption) (by assumption)).trans (mkRd_ok (by assumption))
       case P => first | omega | decide
       case O => omega
       case lt => omega
       case nx => exact fresh_raw hkp (by assumption) (List.Mem.head _) (fun q hq => nomatch hq)
       case nd => exact fresh_raw hkp (by assumption) (.tail _ (List.Mem.head _)) (fun q hq => nomatch hq))
theorem news_two {h₀ h h' : Heap} {L x dx : Addr} {ox od : Obj} {m : Str → Option Value} {news : List (Addr × Obj)} (F : Fr h₀ L h m) (N : News h₀ L h news) (k : Kp [] h h') (hx : h.get? x = none) (hdx : h.get? dx = none) (gx : h'.get? x = some ox) (gd : h'.get? dx = some od) :
    News h₀ L h' ((x, ox) :: (dx, od) :: news) := fun q hq => by
  have fr : ∀ a, h.get? a = none → a ≠ L ∧ h₀.get? a = none := fun a ha => by
    refine ⟨fun z => ?_, ?_⟩
    · obtain ⟨oL, _, _, hL, _⟩ := F.ns
      rw [z, hL] at ha; cases ha
    · cases z : h₀.get? a with
      | none => rfl
      | some o => rw [F.keep _ _ z] at ha; cases ha
  rcases List.mem_cons.mp hq with rfl | hq
  · exact ⟨gx, (fr _ hx).1, (fr _ hx).2⟩
  rcases List.mem_cons.mp hq with rfl | hq
  · exact ⟨gd, (fr _ hdx).1, (fr _ hdx).2⟩
  · exact ⟨k _ _ (N q hq).1 (fun z => nomatch z), (N q hq).2⟩
theorem sized_line {w : World} {p : Program} {loose : List Str} {mean : ExcName → Option Value} {mg mb : Str → Option Value}
    {dp un : Nat} {gd : Option (List Code)} {outer : List Env} {env : Env} {base h₀ : Heap} {L : Addr} {m : Str → Option Value} {news : List (Addr × Obj)} {s : Shared} {Q E : Value → Shared → Prop} {k : Str} {tk0 tb0 : Tok} {b : Array UInt8}
    (B : Below (Ar dp un gd outer) base outer h₀) (F : Fr h₀ L s.heap m) (N : News h₀ L s.heap news) (X : (Mine.pre.heap_1 w.params).In base) (T : Top p loose mean mg mb base) (hf : env.frame = some L) (hke : env.scope.kind = .function)
    (hk : k = "palette" ∨ k = "rgb") (hb : b.size ≤ 10000) (hd : dp + 41 < recursionLimit) (hu : un + 203 < cLine)
    (hret : ∀ (x dx : Addr) (wd ht : Int) (P O : Array UInt8) (u0 u1 u2 u3 u4 : Tok) (t1 t2 t3 t4 t5 : Tok) (h' : Heap) (tk' : Nat), sizedRd k b = .row k wd ht P O → P.size ≤ 1000000 → O.size ≤ 1000000 → @LT.lt Nat _ dx x → (∀ q ∈ news, q.1 ≠ x ∧ q.1 ≠ dx) →
      Fr h₀ L h' m → News h₀ L h' ((x, instObj 91 dx) :: (dx, thumbD w t1 t2 t3 t4 t5 k u0 wd u1 ht u2 P u3 O u4) :: news) → Q (.ref x) { s with heap := h', toks := tk' })
    (hraz : ∀ (e : Addr) (h' : Heap) (tk' : Nat), sizedRd k b = .bad → Raz base s.heap (env :: outer) [] e h' → E (.ref e) { s with heap := h', toks := tk' }) :
    wpAny (model PySem.Challenge.rw_ok0139_01.row.prog w) ((Ar dp un gd outer).deeper env) (call (.ref 123) [.str k tk0, .bytes b tb0]) Q E s := by
  refine sized_raw (dp := dp + 1) (un := un + 3) (l := env :: outer) (gd := gd) (below_here B F hf hke) X T (room2 hd rfl) (room2 hu rfl) hk (hk.elim (fun z => .inr (.inl z)) (fun z => .inr (.inr (.inl z)))) hb ?_ hraz
  intro x dx wd ht P O u0 u1 u2 u3 u4 t1 t2 t3 t4 t5 h' tk' hs hP hO hlt hx hdx kp gx gd
  refine hret x dx wd ht P O u0 u1 u2 u3 u4 t1 t2 t3 t4 t5 h' tk' hs hP hO hlt (fun q hq => ⟨fun z => ?_, fun z => ?_⟩) (F.keeps fun b o e => kp b o e (fun z => nomatch z)) (news_two F N kp hx hdx gx gd)
  · rw [← z, (N q hq).1] at hx; cases hx
  · rw [← z, (N q hq).1] at hdx; cases hdx

theorem lay_62 : True := by
  k_with "call ref" => (k_here; (with_reducible show wpAny _ _ (call (Value.ref 123) _) _ _ _); k_dflt (refine' sized_line ?B₉ ?F₉ ?N₉ ?X₉ ?T₉ ?hf₉ ?hke₉ ?hk₉ ?hb₉ ?hd₉ ?hu₉ ?_ ?_; walk_at "zA"; (case hk₉ => first | exact Or.inl rfl | exact Or.inr rfl); (case hb₉ => first | assumption | omega); walk_at "zD"); all_goals first | (intro x'₉ dx'₉ wd'₉ ht'₉ P'₉ O'₉ u0'₉ u1'₉ u2'₉ u3'₉ u4'₉ t1'₉ t2'₉ t3'₉ t4'₉ t5'₉ h'₉ tk'₉ sz'₉ sP'₉ sO'₉ lt'₉ ne'₉ F'₉ N'₉; k_sweep) | (intro e'₉ h'₉ tk'₉ sz'₉ R'₉))
  trivial

theorem pre5_len {b : Array UInt8} {x : List UInt8} (h : pre5 b = x) : x.length ≤ b.size := by
  rw [← h]
  show (KBy.picked b Option.none (some 5)).toList.length ≤ _
  rw [Array.length_toList]
  exact KBc.size_picked_le _ _ _
theorem jx_len {b : Array UInt8} (h : ((KBy.picked b Option.none (some ((#[74, 70, 88, 88, 0] : Array UInt8).size : Int))).toList != (#[74, 70, 88, 88, 0] : Array UInt8).toList) = false) : 5 ≤ b.size :=
  pre5_len (x := [74, 70, 88, 88, 0]) (bne_eq_false_iff_eq.mp h)
theorem jx5 {b : Array UInt8} (h2 : pre5 b = [74, 70, 88, 88, 0]) (h : (b.size : Int) = 5) : readRd b = .bad := by rw [readRd_jx h2, if_pos (by omega)]
theorem jx17 {b : Array UInt8} {c : Int} {r : Rd} (h2 : pre5 b = [74, 70, 88, 88, 0]) (h : (b.size : Int) ≠ 5) (hc : c = ((b.toList.getD (Int.toNat 5) 0).toNat : Int)) (e : c = 17) (z : sizedRd "palette" (KBy.picked b (some 6) Option.none) = r) : readRd b = r := by
  replace hc : c = ((b.toList.getD 5 0).toNat : Int) := hc
  rw [readRd_jx h2, if_neg (by omega), if_neg (by omega), if_pos (by omega), z]
theorem jx19 {b : Array UInt8} {c : Int} {r : Rd} (h2 : pre5 b = [74, 70, 88, 88, 0]) (h : (b.size : Int) ≠ 5) (hc : c = ((b.toList.getD (Int.toNat 5) 0).toNat : Int)) (e : c = 19) (z : sizedRd "rgb" (KBy.picked b (some 6) Option.none) = r) : readRd b = r := by
  replace hc : c = ((b.toList.getD 5 0).toNat : Int) := hc
  rw [readRd_jx h2, if_neg (by omega), if_neg (by omega), if_neg (by omega), if_pos (by omega), z]
theorem jx16 {b : Array UInt8} {c : Int} (h2 : pre5 b = [74, 70, 88, 88, 0]) (h : (b.size : Int) ≠ 5) (hc : c = ((b.toList.getD (Int.toNat 5) 0).toNat : Int)) (e : c = 16) : readRd b = .row "jpeg" 0 0 #[] (KBy.picked b (some 6) Option.none) := by
  replace hc : c = ((b.toList.getD 5 0).toNat : Int) := hc
  rw [readRd_jx h2, if_neg (by omega), if_pos (by omega)]
theorem jxbad {b : Array UInt8} {c : Int} (h2 : pre5 b = [74, 70, 88, 88, 0]) (h : (b.size : Int) ≠ 5) (hc : c = ((b.toList.getD (Int.toNat 5) 0).toNat : Int)) (e1 : c ≠ 17) (e2 : c ≠ 19) (e3 : c ≠ 16) : readRd b = .bad := by
  replace hc : c = ((b.toList.getD 5 0).toNat : Int) := hc
  rw [readRd_jx h2, if_neg (by omega), if_neg (by omega), if_neg (by omega), if_neg (by omega)]
section
theorem lay_63_0 : True := by
  k_with "subscriptTail" => (k_here; (with_reducible show wpAny _ (Around.deeper _ (envOf (Str.ofString "read_thumbnail") _ _ _ _)) _ _ _ _); (with_reducible show wpAny _ _ (subscriptTail _ _ (Value.bytes _ _) (Value.int _ _)) _ _ _); k_dflt ((have hq5 := jx_len (by assumption)); refine' my_item (i := 5) ?z₉ ?h0₉ ?h1₉ ?_; (case z₉ => first | walk_at "zB" | omega); (case h0₉ => decide); (case h1₉ => ((rename (_ : Int) ≠ _ => hne5); (have hne6 : ¬ _ = 5 := fun z => hne5 (congrArg Nat.cast z)); omega))); intro c'₉ t'₉ k'₉ hc'₉ hc0 hc1)
  trivial
theorem read_raw {w : World} {p : Program} {loose : List Str} {mean : ExcName → Option Value} {mg mb : Str → Option Value}
    {dp un : Nat} {gd : Option (List Code)} {l : List Env} {base : Heap} {s : Shared} {Q E : Value → Shared → Prop} {tb0 : Tok} {b : Array UInt8}
    (B : Below (Ar dp un gd l) base l s.heap) (X : (Mine.pre.heap_1 w.params).In base) (T : Top p loose mean mg mb base)
    (hd : dp + 60 < recursionLimit) (hu : un + 300 < cLine) (hb : b.size ≤ 10000)
    (hnone : ∀ (h' : Heap) (tk' : Nat), readRd b = .none → Kp [] s.heap h' → Q .none { s with heap := h', toks := tk' })
    (hret : ∀ (x dx : Addr) (k : Str) (wd ht : Int) (P O : Array UInt8) (u0 u1 u2 u3 u4 : Tok) (t1 t2 t3 t4 t5 : Tok) (h' : Heap) (tk' : Nat), readRd b = .row k wd ht P O → @LT.lt Nat _ dx x → s.heap.get? x = none → s.heap.get? dx = none →
      Kp [] s.heap h' → h'.get? x = some (instObj 91 dx) → h'.get? dx = some (thumbD w t1 t2 t3 t4 t5 k u0 wd u1 ht u2 P u3 O u4) → Q (.ref x) { s with heap := h', toks := tk' })
    (hraz : ∀ (e : Addr) (h' : Heap) (tk' : Nat), readRd b = .bad → Raz base s.heap l [] e h' → E (.ref e) { s with heap := h', toks := tk' }) :
    wpAny (model PySem.Challenge.rw_ok0139_01.row.prog w) (Ar dp un gd l) (call (.ref 130) [.bytes b tb0]) Q E s := by
  revert X
  k_fill
  intro X
  refine wpAny_call ?_
  k_dflt (refine' enter_raw (own := []) B X T (fun _ hq => nomatch hq) ?k6 ?k7 ?k8 ?k9 ?kB ?_ ?c2 ?c3 ?c4 ?c5)
  case k6 => k_is
  case k7 => k_is
  case k8 => exact room0 hd
  case k9 => exact BindsTo.of_eq rfl
  case c5 => decide
  case kB => exact locs rfl
  case c2 => exact rfl
  case c3 => exact rfl
  case c4 => exact rfl
  intro g' L' h' hkp F' N' B' X' T' l1
  (try dsimp only); (try k_fold)
  k_steps
  all_goals first
    | exact hnone _ _ ((readRd_jf (beq_iff_eq.mp (by assumption)) (by assumption)).1 (beq_iff_eq.mp (by assumption))) (Kp.of hkp (fun q hq => nomatch hq) (by assumption) (by assumption) (fun q hq => nomatch hq))
    | exact hnone _ _ (readRd_none (beq_eq_false_iff_ne.mp (by assumption)) (bne_iff_ne.mp (by assumption))) (Kp.of hkp (fun q hq => nomatch hq) (by assumption) (by assumption) (fun q hq => nomatch hq))
    | exact hraz _ _ _ (readRd_jfbad (beq_iff_eq.mp (by assumption)) (by assumption)) (Raz.raw hkp (fun q hq => nomatch hq) (fun q hq => nomatch hq) (by assumption))
    | exact hraz _ _ _ (jx5 (bne_eq_false_iff_eq.mp (by assumption)) (by assumption)) (Raz.raw hkp (fun q hq => nomatch hq) (fun q hq => nomatch hq) (by assumption))
    | exact hraz _ _ _ (jx17 (bne_eq_false_iff_eq.mp (by assumption)) (by assumption) (by assumption) (by assumption) (by assumption)) (Raz.raw hkp (fun q hq => nomatch hq) (fun q hq => nomatch hq) (by assumption))
    | exact hraz _ _ _ (jx19 (bne_eq_false_iff_eq.mp (by assumption)) (by assumption) (by assumption) (by assumption) (by assumption)) (Raz.raw hkp (fun q hq => nomatch hq) (fun q hq => nomatch hq) (by assumption))
    | exact hraz _ _ _ (jxbad (bne_eq_false_iff_eq.mp (by assumption)) (by assumption) (by assumption) (by assumption) (by assumption) (by assumption)) (Raz.raw hkp (fun q hq => nomatch hq) (fun q hq => nomatch hq) (by assumption))
    | (refine hret _ _ _ _ _ _ _ _ _ _ _ _ _ _ _ _ _ _ _ ?s ?lt ?nx ?nd (Kp.of hkp (fun q hq => nomatch hq) (by assumption) (by assumption) (fun q hq => nomatch hq)) (News.get (by assumption) (by k_mem)) (News.get (by assumption) (by k_mem))
       case s => first
         | exact (readRd_jf (beq_iff_eq.mp (by assumption)) (by assumption)).2 (beq_eq_false_iff_ne.mp (by assumption))
         | exact jx17 (bne_eq_false_iff_eq.mp (by assumption)) (by assumption) (by assumption) (by assumption) (by assumption)
         | exact jx19 (bne_eq_false_iff_eq.mp (by assumption)) (by assumption) (by assumption) (by assumption) (by assumption)
         | exact jx16 (bne_eq_false_iff_eq.mp (by assumption)) (by assumption) (by assumption) (by assumption)
       case lt => omega
       case nx => exact fresh_raw hkp (by assumption) (by k_mem) (fun q hq => nomatch hq)
       case nd => exact fresh_raw hkp (by assumption) (by k_mem) (fun q hq => nomatch hq))
end
theorem not_let {b : Bool} {p : Prop} (h : b = true ↔ p) (e : b = false) : ¬ p := fun z => by rw [h.mpr z] at e; cases e
theorem is_let {b : Bool} {p : Prop} (h : b = true ↔ p) (e : b = true) : p := h.mp e
theorem lsized_raw {w : World} {p : Program} {loose : List Str} {mean : ExcName → Option Value} {mg mb : Str → Option Value}
    {dp un : Nat} {gd : Option (List Code)} {l : List Env} {base : Heap} {s : Shared} {Q E : Value → Shared → Prop} {k : Str} {tk0 tb0 : Tok} {b : Array UInt8}
    (B : Below (Ar dp un gd l) base l s.heap) (X : (Mine.pre.heap_1 w.params).In base) (T : Top p loose mean mg mb base)
    (hd : dp + 40 < recursionLimit) (hu : un + 200 < cLine) (hkk : KindOk k) (hb : b.size ≤ 10000)
    (hret : ∀ (a : Addr) (wd ht : Int) (P O : Array UInt8) (u0 u1 u2 u3 u4 : Tok) (h' : Heap) (tk' : Nat), sizedRd k b = .row k wd ht P O → s.heap.get? a = none → Kp [] s.heap h' → h'.get? a = some { cls := .type "tuple", data := .seq (rowT k u0 wd u1 ht u2 P u3 O u4) } → Q (.ref a) { s with heap := h', toks := tk' })
    (hbad : ∀ (t : Tok) (h' : Heap) (tk' : Nat), sizedRd k b = .bad → Kp [] s.heap h' → Q (.str "raised" t) { s with heap := h', toks := tk' }) :
    wpAny (model PySem.Challenge.rw_ok0139_01.row.prog w) (Ar dp un gd l) (call (.ref 214) [.str k tk0, .bytes b tb0]) Q E s := by
  revert X
  k_fill
  intro X
  refine wpAny_call ?_
  k_dflt (refine' enter_raw (own := []) B X T (fun _ hq => nomatch hq) ?k6 ?k7 ?k8 ?k9 ?kB ?_ ?c2 ?c3 ?c4 ?c5)
  case k6 => k_is
  case k7 => k_is
  case k8 => exact room0 hd
  case k9 => exact BindsTo.of_eq rfl
  case c5 => decide
  case kB => exact locs rfl
  case c2 => exact rfl
  case c3 => exact rfl
  case c4 => exact rfl
  intro g' L' h' hkp F' N' B' X' T' l1
  (try dsimp only); (try k_fold)
  k_steps
  all_goals first
    | exact hbad _ _ _ (sizedRd_short (by omega)) (Kp.of hkp (fun q hq => nomatch hq) (by assumption) (by assumption) (fun q hq => nomatch hq))
    | exact hbad _ _ _ ((lsized_pal (beq_iff_eq.mp (by assumption)) (by assumption) (by assumption) (by assumption)).trans (mkRd_bad (not_let (by assumption) (by assumption)))) (Kp.of hkp (fun q hq => nomatch hq) (by assumption) (by assumption) (fun q hq => nomatch hq))
    | exact hbad _ _ _ ((lsized_rgb (beq_eq_false_iff_ne.mp (by assumption)) (by assumption) (by assumption) (by assumption)).trans (mkRd_bad (not_let (by assumption) (by assumption)))) (Kp.of hkp (fun q hq => nomatch hq) (by assumption) (by assumption) (fun q hq => nomatch hq))
    | exact hret _ _ _ _ _ _ _ _ _ _ _ _ ((lsized_pal (beq_iff_eq.mp (by assumption)) (by assumption) (by assumption) (by assumption)).trans (mkRd_ok (is_let (by assumption) (by assumption)))) (fresh_raw hkp (by assumption) (List.Mem.head _) (fun q hq => nomatch hq)) (Kp.of hkp (fun q hq => nomatch hq) (by assumption) (by assumption) (fun q hq => nomatch hq)) (News.get (by assumption) (List.Mem.head _))
    | exact hret _ _ _ _ _ _ _ _ _ _ _ _ ((lsized_rgb (beq_eq_false_iff_ne.mp (by assumption)) (by assumption) (by assumption) (by assumption)).trans (mkRd_ok (is_let (by assumption) (by assumption)))) (fresh_raw hkp (by assumption) (List.Mem.head _) (fun q hq => nomatch hq)) (Kp.of hkp (fun q hq => nomatch hq) (by assumption) (by assumption) (fun q hq => nomatch hq)) (News.get (by assumption) (List.Mem.head _))
theorem news_one {h₀ h h' : Heap} {L x : Addr} {ox : Obj} {m : Str → Option Value} {news : List (Addr × Obj)} (F : Fr h₀ L h m) (N : News h₀ L h news) (k : Kp [] h h') (hx : h.get? x = none) (gx : h'.get? x = some ox) :
    News h₀ L h' ((x, ox) :: news) := fun q hq => by
  rcases List.mem_cons.mp hq with rfl | hq
  · refine ⟨gx, fun z => ?_, ?_⟩
    · obtain ⟨oL, _, _, hL, _⟩ := F.ns
      rw [← z] at hL; exact absurd (hL.symm.trans hx) (by simp)
    · cases z : h₀.get? x with
      | none => rfl
      | some o => rw [F.keep _ _ z] at hx; cases hx
  · exact ⟨k _ _ (N q hq).1 (fun z => nomatch z), (N q hq).2⟩
theorem lsized_line {w : World} {p : Program} {loose : List Str} {mean : ExcName → Option Value} {mg mb : Str → Option Value}
    {dp un : Nat} {gd : Option (List Code)} {outer : List Env} {env : Env} {base h₀ : Heap} {L : Addr} {m : Str → Option Value} {news : List (Addr × Obj)} {s : Shared} {Q E : Value → Shared → Prop} {k : Str} {tk0 tb0 : Tok} {b : Array UInt8}
    (B : Below (Ar dp un gd outer) base outer h₀) (F : Fr h₀ L s.heap m) (N : News h₀ L s.heap news) (X : (Mine.pre.heap_1 w.params).In base) (T : Top p loose mean mg mb base) (hf : env.frame = some L) (hke : env.scope.kind = .function)
    (hk : k = "palette" ∨ k = "rgb") (hb : b.size ≤ 10000) (hd : dp + 41 < recursionLimit) (hu : un + 203 < cLine)
    (hret : ∀ (a : Addr) (wd ht : Int) (P O : Array UInt8) (u0 u1 u2 u3 u4 : Tok) (h' : Heap) (tk' : Nat), sizedRd k b = .row k wd ht P O → (∀ q ∈ news, q.1 ≠ a) → Fr h₀ L h' m → News h₀ L h' ((a, { cls := .type "tuple", data := .seq (rowT k u0 wd u1 ht u2 P u3 O u4) }) :: news) → Q (.ref a) { s with heap := h', toks := tk' })
    (hbad : ∀ (t : Tok) (h' : Heap) (tk' : Nat), sizedRd k b = .bad → Fr h₀ L h' m → News h₀ L h' news → Q (.str "raised" t) { s with heap := h', toks := tk' }) :
    wpAny (model PySem.Challenge.rw_ok0139_01.row.prog w) ((Ar dp un gd outer).deeper env) (call (.ref 214) [.str k tk0, .bytes b tb0]) Q E s := by
  refine lsized_raw (dp := dp + 1) (un := un + 3) (l := env :: outer) (gd := gd) (below_here B F hf hke) X T (room2 hd rfl) (room2 hu rfl) (hk.elim (fun z => .inr (.inl z)) (fun z => .inr (.inr (.inl z)))) hb ?_ ?_
  · intro a wd ht P O u0 u1 u2 u3 u4 h' tk' hs hn kp ga
    exact hret a wd ht P O u0 u1 u2 u3 u4 h' tk' hs (fun q hq z => by rw [← z, (N q hq).1] at hn; cases hn) (F.keeps fun b o e => kp b o e (fun z => nomatch z)) (news_one F N kp hn ga)
  · intro t h' tk' hs kp
    exact hbad t h' tk' hs (F.keeps fun b o e => kp b o e (fun z => nomatch z)) fun q hq => ⟨kp _ _ (N q hq).1 (fun z => nomatch z), (N q hq).2⟩

theorem lay_66 : True := by
  k_with "call ref" => (k_here; (with_reducible show wpAny _ _ (call (Value.ref 214) _) _ _ _); k_dflt (refine' lsized_line ?B₉ ?F₉ ?N₉ ?X₉ ?T₉ ?hf₉ ?hke₉ ?hk₉ ?hb₉ ?hd₉ ?hu₉ ?_ ?_; walk_at "zA"; (case hk₉ => first | exact Or.inl rfl | exact Or.inr rfl); (case hb₉ => first | assumption | omega); walk_at "zD"); all_goals first | (intro a'₉ wd'₉ ht'₉ P'₉ O'₉ u0'₉ u1'₉ u2'₉ u3'₉ u4'₉ h'₉ tk'₉ sz'₉ ne'₉ F'₉ N'₉; k_sweep) | (intro t'₉ h'₉ tk'₉ sz'₉ F'₉ N'₉; k_sweep))
  trivial

theorem p56 {b : Array UInt8} {x : UInt8} (h : (KBy.picked b (some 5) (some 6)).toList = [x]) : 6 ≤ b.size ∧ b.toList.getD 5 0 = x := by
  rw [pk_list] at h
  have h5 : clipAt b.size 5 = min 5 b.size := clip_pos b.size 5
  have h6 : clipAt b.size 6 = min 6 b.size := clip_pos b.size 6
  simp only [Option.elim, h5, h6] at h
  have hl := congrArg List.length h
  simp at hl
  have hz : 6 ≤ b.size := by omega
  refine ⟨hz, ?_⟩
  have e := congrArg (fun l => l.getD 0 0) h
  have m5 : min 5 b.size = 5 := Nat.min_eq_left (Nat.le_trans (by decide) hz)
  have m6 : min 6 b.size = 6 := Nat.min_eq_left hz
  rw [m5, m6] at e
  simpa [List.getD_eq_getElem?_getD, List.getElem?_take, List.getElem?_drop] using e
theorem p56b {b : Array UInt8} {x : UInt8} (h : ((KBy.picked b (some 5) (some 6)).toList == [x]) = true) : 6 ≤ b.size := (p56 (beq_iff_eq.mp h)).1
theorem p56c {b : Array UInt8} (h : 6 ≤ b.size) : (KBy.picked b (some 5) (some 6)).toList = [b.toList.getD 5 0] := by
  rw [pk_list]
  have h5 : clipAt b.size 5 = min 5 b.size := clip_pos b.size 5
  have h6 : clipAt b.size 6 = min 6 b.size := clip_pos b.size 6
  have m5 : min 5 b.size = 5 := Nat.min_eq_left (Nat.le_trans (by decide) h)
  have m6 : min 6 b.size = 6 := Nat.min_eq_left h
  simp only [Option.elim, h5, h6, m5, m6]
  have hl : 5 < b.toList.length := by simp; omega
  have hb5 : 5 < b.size := by omega
  rw [List.drop_eq_getElem_cons hl]
  simp [List.getD_eq_getElem?_getD, hb5]
theorem byte5 {b : Array UInt8} {x : UInt8} (h : ((KBy.picked b (some 5) (some 6)).toList == [x]) = true) : 6 ≤ b.size ∧ ((b.toList.getD 5 0).toNat : Int) = (x.toNat : Int) := by
  obtain ⟨h1, h2⟩ := p56 (beq_iff_eq.mp h)
  exact ⟨h1, by rw [h2]⟩
theorem nbyte5 {b : Array UInt8} {x : UInt8} (h6 : 6 ≤ b.size) (h : ((KBy.picked b (some 5) (some 6)).toList == [x]) = false) : ((b.toList.getD 5 0).toNat : Int) ≠ (x.toNat : Int) := fun e => by
  rw [p56c h6] at h
  have : b.toList.getD 5 0 = x := UInt8.toNat_inj.mp (by omega)
  rw [this] at h
  simp at h
theorem d16 {b : Array UInt8} (h2 : pre5 b = [74, 70, 88, 88, 0]) (h : ((KBy.picked b (some 5) (some 6)).toList == [16]) = true) : readRd b = .row "jpeg" 0 0 #[] (KBy.picked b (some 6) Option.none) :=
  jx16 h2 (by have := (byte5 h).1; omega) rfl (byte5 h).2
theorem d17 {b : Array UInt8} {r : Rd} (h2 : pre5 b = [74, 70, 88, 88, 0]) (h : ((KBy.picked b (some 5) (some 6)).toList == [17]) = true) (z : sizedRd "palette" (KBy.picked b (some 6) Option.none) = r) : readRd b = r :=
  jx17 h2 (by have := (byte5 h).1; omega) rfl (byte5 h).2 z
theorem d19 {b : Array UInt8} {r : Rd} (h2 : pre5 b = [74, 70, 88, 88, 0]) (h : ((KBy.picked b (some 5) (some 6)).toList == [19]) = true) (z : sizedRd "rgb" (KBy.picked b (some 6) Option.none) = r) : readRd b = r :=
  jx19 h2 (by have := (byte5 h).1; omega) rfl (byte5 h).2 z
theorem d17x {b : Array UInt8} {c : Int} (h : ((KBy.picked b (some 5) (some 6)).toList == [17]) = true) (hc : c = ((b.toList.getD (Int.toNat 5) 0).toNat : Int)) (e : c ≠ 17) : False := e (hc.trans (byte5 h).2)
theorem d19x {b : Array UInt8} {c : Int} (h : ((KBy.picked b (some 5) (some 6)).toList == [19]) = true) (hc : c = ((b.toList.getD (Int.toNat 5) 0).toNat : Int)) (e : c = 17) : False := by
  have := hc.trans (byte5 h).2
  rw [e] at this
  exact absurd this (by decide)
theorem dbad {b : Array UInt8} (h2 : pre5 b = [74, 70, 88, 88, 0]) (a : ((KBy.picked b (some 5) (some 6)).toList == [16]) = false) (c : ((KBy.picked b (some 5) (some 6)).toList == [17]) = false) (d : ((KBy.picked b (some 5) (some 6)).toList == [19]) = false) : readRd b = .bad := by
  have h5 := pre5_len h2
  by_cases hz : (b.size : Int) = 5
  · exact jx5 h2 hz
  · have h6 : 6 ≤ b.size := by simp at h5; omega
    exact jxbad h2 hz rfl (nbyte5 h6 c) (nbyte5 h6 d) (nbyte5 h6 a)
section
theorem lay_67_0 : True := by
  k_with "subscriptTail" => (k_here; (with_reducible show wpAny _ (Around.deeper _ (envOf (Str.ofString "_law_payload_due") _ _ _ _)) _ _ _ _); (with_reducible show wpAny _ _ (subscriptTail _ _ (Value.bytes _ _) (Value.int _ _)) _ _ _); k_dflt ((have hq5 := p56b (by assumption)); refine' my_item (i := 5) ?z₉ ?h0₉ ?h1₉ ?_; (case z₉ => first | walk_at "zB" | omega); (case h0₉ => decide); (case h1₉ => omega)); intro c'₉ t'₉ k'₉ hc'₉ hc0 hc1)
  trivial
theorem due_raw {w : World} {p : Program} {loose : List Str} {mean : ExcName → Option Value} {mg mb : Str → Option Value}
    {dp un : Nat} {gd : Option (List Code)} {l : List Env} {base : Heap} {s : Shared} {Q E : Value → Shared → Prop} {tb0 : Tok} {b : Array UInt8}
    (B : Below (Ar dp un gd l) base l s.heap) (X : (Mine.pre.heap_1 w.params).In base) (T : Top p loose mean mg mb base)
    (hd : dp + 60 < recursionLimit) (hu : un + 300 < cLine) (hb : b.size ≤ 10000)
    (hnone : ∀ (h' : Heap) (tk' : Nat), readRd b = .none → Kp [] s.heap h' → Q .none { s with heap := h', toks := tk' })
    (hret : ∀ (a : Addr) (k : Str) (wd ht : Int) (P O : Array UInt8) (u0 u1 u2 u3 u4 : Tok) (h' : Heap) (tk' : Nat), readRd b = .row k wd ht P O → s.heap.get? a = none → Kp [] s.heap h' → h'.get? a = some { cls := .type "tuple", data := .seq (rowT k u0 wd u1 ht u2 P u3 O u4) } → Q (.ref a) { s with heap := h', toks := tk' })
    (hbad : ∀ (t : Tok) (h' : Heap) (tk' : Nat), readRd b = .bad → Kp [] s.heap h' → Q (.str "raised" t) { s with heap := h', toks := tk' }) :
    wpAny (model PySem.Challenge.rw_ok0139_01.row.prog w) (Ar dp un gd l) (call (.ref 221) [.bytes b tb0]) Q E s := by
  revert X
  k_fill
  intro X
  refine wpAny_call ?_
  k_dflt (refine' enter_raw (own := []) B X T (fun _ hq => nomatch hq) ?k6 ?k7 ?k8 ?k9 ?kB ?_ ?c2 ?c3 ?c4 ?c5)
  case k6 => k_is
  case k7 => k_is
  case k8 => exact room0 hd
  case k9 => exact BindsTo.of_eq rfl
  case c5 => decide
  case kB => exact locs rfl
  case c2 => exact rfl
  case c3 => exact rfl
  case c4 => exact rfl
  intro g' L' h' hkp F' N' B' X' T' l1
  (try dsimp only); (try k_fold)
  k_steps
  all_goals first
    | exact hnone _ _ ((readRd_jf (beq_iff_eq.mp (by assumption)) (by assumption)).1 (beq_iff_eq.mp (by assumption))) (Kp.of hkp (fun q hq => nomatch hq) (by assumption) (by assumption) (fun q hq => nomatch hq))
    | exact hnone _ _ (readRd_none (beq_eq_false_iff_ne.mp (by assumption)) (bne_iff_ne.mp (by assumption))) (Kp.of hkp (fun q hq => nomatch hq) (by assumption) (by assumption) (fun q hq => nomatch hq))
    | exact (d17x (by assumption) (by assumption) (by assumption)).elim
    | exact (d19x (by assumption) (by assumption) (by assumption)).elim
    | exact hbad _ _ _ (readRd_jfbad (beq_iff_eq.mp (by assumption)) (by assumption)) (Kp.of hkp (fun q hq => nomatch hq) (by assumption) (by assumption) (fun q hq => nomatch hq))
    | exact hbad _ _ _ (d17 (bne_eq_false_iff_eq.mp (by assumption)) (by assumption) (by assumption)) (Kp.of hkp (fun q hq => nomatch hq) (by assumption) (by assumption) (fun q hq => nomatch hq))
    | exact hbad _ _ _ (d19 (bne_eq_false_iff_eq.mp (by assumption)) (by assumption) (by assumption)) (Kp.of hkp (fun q hq => nomatch hq) (by assumption) (by assumption) (fun q hq => nomatch hq))
    | exact hbad _ _ _ (dbad (bne_eq_false_iff_eq.mp (by assumption)) (by assumption) (by assumption) (by assumption)) (Kp.of hkp (fun q hq => nomatch hq) (by assumption) (by assumption) (fun q hq => nomatch hq))
    | exact hret _ _ _ _ _ _ _ _ _ _ _ _ _ ((readRd_jf (beq_iff_eq.mp (by assumption)) (by assumption)).2 (beq_eq_false_iff_ne.mp (by assumption))) (fresh_raw hkp (by assumption) (List.Mem.head _) (fun q hq => nomatch hq)) (Kp.of hkp (fun q hq => nomatch hq) (by assumption) (by assumption) (fun q hq => nomatch hq)) (News.get (by assumption) (List.Mem.head _))
    | exact hret _ _ _ _ _ _ _ _ _ _ _ _ _ (d17 (bne_eq_false_iff_eq.mp (by assumption)) (by assumption) (by assumption)) (fresh_raw hkp (by assumption) (List.Mem.head _) (fun q hq => nomatch hq)) (Kp.of hkp (fun q hq => nomatch hq) (by assumption) (by assumption) (fun q hq => nomatch hq)) (News.get (by assumption) (List.Mem.head _))
    | exact hret _ _ _ _ _ _ _ _ _ _ _ _ _ (d19 (bne_eq_false_iff_eq.mp (by assumption)) (by assumption) (by assumption)) (fresh_raw hkp (by assumption) (List.Mem.head _) (fun q hq => nomatch hq)) (Kp.of hkp (fun q hq => nomatch hq) (by assumption) (by assumption) (fun q hq => nomatch hq)) (News.get (by assumption) (List.Mem.head _))
    | exact hret _ _ _ _ _ _ _ _ _ _ _ _ _ (d16 (bne_eq_false_iff_eq.mp (by assumption)) (by assumption)) (fresh_raw hkp (by assumption) (List.Mem.head _) (fun q hq => nomatch hq)) (Kp.of hkp (fun q hq => nomatch hq) (by assumption) (by assumption) (fun q hq => nomatch hq)) (News.get (by assumption) (List.Mem.head _))
end
section
open PySem.Spec PyProof.V Builtin
theorem gives_mulS {b : Array UInt8} {n : Int} {t u : Tok} (hf : Bytes.fitsIndex n = true) (h63 : ¬ b.size * n.toNat ≥ 2 ^ 63) (he : b.size * n.toNat = b.size) : Gives («bytes.__mul__» ⟨[.bytes b t, .int n u], []⟩) (.val (.bytes b t)) := by
  refine .of_wp fun M A E s Q hq => ?_
  show wpAny M A (Bytes.repeatArgs .bytes "__mul__" ⟨[.bytes b t, .int n u], []⟩ >>= fun r => _) _ E s
  refine PySem.wpAny_bind (PySem.wpAny_of_eq (BMul.args_eq hf) ?_)
  refine PySem.wpAny_bind (PySem.wpAny_of_eq (a := b) rfl ?_)
  show wpAny M A (if b.size * n.toNat ≥ 2 ^ 63 then _ else _) _ E s
  rw [if_neg h63]
  refine bm_if_true (by rw [he]; exact beq_self_eq_true _) ?_
  refine PySem.wpAny_bind (wpAny_typeOf (PySem.W.typeIs_bytes s b t) ?_)
  exact PySem.wpAny_bind (PySem.wpAny_rule (PySem.wpAny_pure ⟨_, rfl, hq⟩))
theorem bytes_mulS {prog : Program} {w : World} {A : Around} {E : Value → Shared → Prop} {s : Shared} {b : Array UInt8} {n : Int} {t u : Tok} {Q : Value → Shared → Prop} (hs : b.size ≤ 16) (h0 : 0 ≤ n) (h1 : n ≤ 1000)
    (h : ∀ B t' k, B.size = b.size * n.toNat → Q (.bytes B t') { s with toks := k }) : wpAny (model prog w) A (binaryOp .Mult (.bytes b t) (.int n u)) Q E s := by
  obtain ⟨l⟩ := b
  by_cases hl : l = []
  · subst hl
    refine wpAny_binaryOp_repeat (T := "bytes") (U := "int") (by decide) (fun s' => PySem.W.typeIs_bytes s' _ t) (fun s' => typeIs_int s' n u) BMul.noFill F.fills_int_mul F.slot_int_rmul BMul.repeats F.slot_int_index.lookup
      (call_gives F.slot_int_rmul (typeIs_int s n u) F.entry_int_rmul (F.args_int_rmul_2 _ _) (BMul.int_declines n u _ t)
        ⟨rfl, call_gives BMul.slot_mul (PySem.W.typeIs_bytes s _ t) BMul.entry_mul (BMul.args_mul _ _) (gives_mulS (by simp only [Builtin.Bytes.fitsIndex, Bool.and_eq_true, decide_eq_true_eq]; omega) (by simp) (by simp)) ?_⟩)
    exact h _ _ s.toks (by simp)
  · exact bytes_mul_any hl (by omega) (by omega) hs fun t' k => h _ _ _ (by simp [Nat.mul_comm])
end
section
theorem item_sz {prog : Program} {w : World} {A : Around} {E : Value → Shared → Prop} {s : Shared} {a : Addr} {n : Nat} {i : Int} {u : Tok} {value slice : PySem.Expr} {vs : Array Value} {Q : Value → Shared → Prop} {h₀ : Heap} {L : Addr} {news : List (Addr × Obj)} (N : News h₀ L s.heap news) (hm : (a, W.listOf vs n) ∈ news)
    (hw : ∀ v ∈ vs.toList, ∃ H t, v = .bytes H t ∧ H.size ≤ 1000) (h0 : 0 ≤ i) (h1 : i < (vs.size : Int)) (h2 : i < 1000)
    (h : ∀ H t, H.size ≤ 1000 → Q (.bytes H t) s)
    (hs : subscripted slice false (.ref a) (.int i u) = operate [.ref a, .int i u] (getItem (.ref a) (.int i u)) := by with_unfolding_all rfl) :
    wpAny (model prog w) A (subscriptTail value slice (.ref a) (.int i u)) Q E s := by
  have hl : s.heap.IsList a vs := ⟨_, (N _ hm).1, rfl, _, rfl⟩
  have hlt : i.toNat < vs.size := by omega
  obtain ⟨H, t, e, hk⟩ := hw vs[i.toNat] (by simp)
  exact tail_any hl.typeIs slot_list_getitem.lookup (wpAny_getItem_list hl h0 (by omega) (x := .bytes H t) (by simp [hlt, e]) (h H t hk)) hs
theorem mul33 {a b : Int} (h0 : 0 ≤ a) (h1 : a < 3) (h2 : 0 ≤ b) (h3 : b < 3) : 0 ≤ a * b ∧ a * b ≤ 4 :=
  ⟨Int.mul_nonneg h0 h2, Int.le_trans (Int.mul_le_mul (c := 2) (d := 2) (by omega) (by omega) h2 (by decide)) (by decide)⟩
theorem times3 {B b : Array UInt8} (h : B.size = b.size * Int.toNat 3) : B.size = b.size * 3 := h
theorem sz33 {B : Array UInt8} {a b : Int} (h : B.size = (a * b).toNat) (h0 : 0 ≤ a) (h1 : a < 3) (h2 : 0 ≤ b) (h3 : b < 3) : B.size ≤ 4 := by
  have := (mul33 h0 h1 h2 h3).2
  omega
theorem lay_68_0 : True := by
  k_with "subscriptTail" => (k_here; (with_reducible show wpAny _ (Around.deeper _ (envOf (Str.ofString "_law_payload") _ _ _ _)) _ _ _ _); (with_reducible show wpAny _ _ (subscriptTail _ _ (Value.ref _) (Value.int _ _)) _ _ _); k_dflt (first | (refine' item_range ?N₉ ?m₉ ?w₉ ?h0₉ ?h1₉ ?h2₉ ?_; (case N₉ => k_asm); (case m₉ => k_mem); (case w₉ => (intro v hv; simp only [List.mem_cons, List.not_mem_nil, or_false] at hv; rcases hv with e | e | e | e | e | e <;> exact ⟨_, _, e, by decide, by decide⟩)); (case h0₉ => assumption); (case h1₉ => assumption); (case h2₉ => omega); intro iv'₉ it'₉ hi0'₉ hi1'₉) | (refine' item_sz ?N₉ ?m₉ ?w₉ ?h0₉ ?h1₉ ?h2₉ ?_; (case N₉ => k_asm); (case m₉ => k_mem); (case w₉ => (intro v hv; simp only [List.mem_cons, List.not_mem_nil, or_false] at hv; rcases hv with e | e | e | e | e | e | e <;> refine ⟨_, _, e, ?_⟩; all_goals (simp; try omega))); (case h0₉ => assumption); (case h1₉ => assumption); (case h2₉ => omega); intro Hx'₉ Ht'₉ hHx'₉)))
  k_with "binaryOp Mult bytes int" => (k_here; (with_reducible show wpAny _ (Around.deeper _ (envOf (Str.ofString "_law_payload") _ _ _ _)) _ _ _ _); (with_reducible show wpAny _ _ (binaryOp Operator.Mult (Value.bytes _ _) (Value.int _ _)) _ _ _); first | (refine bytes_mul1 rfl (mul33 (by assumption) (by assumption) (by assumption) (by assumption)).1 (Int.le_trans (mul33 (by assumption) (by assumption) (by assumption) (by assumption)).2 (by decide)) ?_; intro mB'₉ mt'₉ mk'₉ mh'₉; (have mz'₉ := sz33 mh'₉ (by assumption) (by assumption) (by assumption) (by assumption))) | (refine bytes_mulS (by omega) (by decide) (by decide) ?_; intro mB'₉ mt'₉ mk'₉ mh'₉; (have mz'₉ := times3 mh'₉)))
  k_with "binaryOp Add bytes bytes" => (k_here; (with_reducible show wpAny _ (Around.deeper _ (envOf (Str.ofString "_law_payload") _ _ _ _)) _ _ _ _); (with_reducible show wpAny _ _ (binaryOp Operator.Add (Value.bytes _ _) (Value.bytes _ _)) _ _ _); (refine KBy.add_bytes (by (simp only [Array.size_append, List.size_toArray, List.length_cons, List.length_nil, List.length_append, Array.length_toList, Array.size_replicate, Int.reduceToNat]; omega)) ?_); intro _ _)
  trivial
theorem payload_raw {w : World} {p : Program} {loose : List Str} {mean : ExcName → Option Value} {mg mb : Str → Option Value}
    {dp un : Nat} {gd : Option (List Code)} {l : List Env} {base : Heap} {s : Shared} {Q E : Value → Shared → Prop} {src : Addr} {R : SrcR}
    (B : Below (Ar dp un gd l) base l s.heap) (X : (Mine.pre.heap_1 w.params).In base) (T : Top p loose mean mg mb base)
    (hs : s.heap.get? src = some (srcO R)) (hsb : base.get? src = none) (hsl : src ∉ l.filterMap (·.frame))
    (hd : dp + 40 < recursionLimit) (hu : un + 200 < cLine)
    (hret : ∀ (b : Array UInt8) (t : Tok) (R' : SrcR) (h' : Heap) (tk' : Nat), b.size ≤ 10000 →
      Kp [src] s.heap h' → h'.get? src = some (srcO R') → Q (.bytes b t) { s with heap := h', toks := tk' }) :
    wpAny (model PySem.Challenge.rw_ok0139_01.row.prog w) (Ar dp un gd l) (call (.ref 207) [.ref src]) Q E s := by
  revert X
  k_fill
  intro X
  refine wpAny_call ?_
  have hown : ∀ q ∈ [(src, srcO R)], s.heap.get? q.1 = some q.2 ∧ base.get? q.1 = none ∧ q.1 ∉ l.filterMap (·.frame) := by
    intro q hq; cases List.mem_singleton.mp hq; exact ⟨hs, hsb, hsl⟩
  k_dflt (refine' enter_raw (own := [(src, srcO R)]) B X T hown ?k6 ?k7 ?k8 ?k9 ?kB ?_ ?c2 ?c3 ?c4 ?c5)
  case k6 => k_is
  case k7 => k_is
  case k8 => exact room0 hd
  case k9 => exact BindsTo.of_eq rfl
  case c5 => decide
  case kB => exact locs rfl
  case c2 => exact rfl
  case c3 => exact rfl
  case c4 => exact rfl
  intro g' L' h' hkp F' N' B' X' T' l1
  (try k_lt l1)
  clear hs
  (try dsimp only); (try k_fold)
  k_steps
  all_goals (try dsimp only)
  all_goals (k_dflt (refine' hret _ _ _ _ _ ?z ?kp ?gs; (case gs => exact News.get (by assumption) (by k_mem)); (case kp => exact fun b o e nb => Fr.keep (by assumption) b o (hkp b o e nb)); (case z => first | (refine Nat.le_trans (KBc.size_picked_le _ _ _) ?_; omega) | (simp only [Array.size_append, List.size_toArray, List.length_cons, List.length_nil]; omega))))
end
/-- a list's values are these octets -/
inductive BytesAre : List Value → List (Array UInt8) → Prop
  | nil : BytesAre [] []
  | cons {vs : List Value} {bs : List (Array UInt8)} (b : Array UInt8) (t : Tok) : BytesAre vs bs → BytesAre (.bytes b t :: vs) (b :: bs)
theorem BytesAre.length {vs : List Value} {bs : List (Array UInt8)} (h : BytesAre vs bs) : vs.length = bs.length := by
  induction h with
  | nil => rfl
  | cons b t _ ih => simp [ih]
theorem BytesAre.get {vs : List Value} {bs : List (Array UInt8)} (h : BytesAre vs bs) : ∀ {i : Nat} {b : Array UInt8}, bs[i]? = some b → ∃ t, vs[i]? = some (.bytes b t) := by
  induction h with
  | nil => intro i b hb; simp at hb
  | cons b t _ ih =>
    intro i c hc
    cases i with
    | zero => simp at hc; subst hc; exact ⟨t, rfl⟩
    | succ i => simpa using ih (by simpa using hc)
theorem BytesAre.append {vs ws : List Value} {bs cs : List (Array UInt8)} (h : BytesAre vs bs) (g : BytesAre ws cs) : BytesAre (vs ++ ws) (bs ++ cs) := by
  induction h with
  | nil => exact g
  | cons b t _ ih => exact .cons b t ih
theorem BytesAre.at {vs : List Value} {bs : List (Array UInt8)} (h : BytesAre vs bs) {i : Nat} {v : Value} (hv : vs[i]? = some v) : ∃ b t, v = .bytes b t ∧ bs[i]? = some b := by
  have hl := h.length
  have hi : i < bs.length := by have := (List.getElem?_eq_some_iff.mp hv).1; omega
  obtain ⟨t, ht⟩ := h.get (List.getElem?_eq_getElem hi)
  rw [hv] at ht
  exact ⟨_, t, Option.some.inj ht, List.getElem?_eq_getElem hi⟩
/-- octets put together -/
noncomputable def jflat (bs : List (Array UInt8)) : Array UInt8 := (bs.map Array.toList).flatten.toArray
theorem jflat_size (bs : List (Array UInt8)) : (jflat bs).size = (bs.map Array.size).sum := by
  simp only [jflat, List.size_toArray, List.length_flatten, List.map_map]
  congr 1
section
open Builtin
theorem jb_slot : Slot "bytes" "join" "bytes.join" :=
  .of (owner := "bytes") (n := "join") (by rw [typeLookup_type, PySem.builtinLookup_eq_fast]; kernel_rfl) (by decide +kernel) (by decide +kernel) (by decide +kernel)
    (by first | exact .inl (by decide +kernel) | exact .inr (by decide +kernel)) (by rw [isSubtype_type]; kernel_rfl)
theorem jb_entry : entryFor table "bytes.join" = some Builtin.«bytes.join» := by first | exact entryFor_of_tree (by kernel_rfl) | exact entryFor_of_fast (by kernel_rfl)
theorem jb_args (a b : Value) : argsOk "bytes.join" ⟨[a, b], []⟩ := by
  unfold argsOk; rw [signature?_of (id := "bytes.join") (n := ['n', 'i', 'o', 'j']) (o := ['s', 'e', 't', 'y', 'b']) (by kernel_rfl) FB.owner_bytes]; kernel_rfl
theorem jb_buf : typeLookup (.type "bytes") "__buffer__" = pure (some (.builtin "bytes.__buffer__")) := by rw [typeLookup_type, PySem.builtinLookup_eq_fast]; kernel_rfl
theorem jb_rel : typeLookup (.type "bytes") "__release_buffer__" = pure none := by rw [typeLookup_type, PySem.builtinLookup_eq_fast]; kernel_rfl
variable {M : Model} {prog : Program} {w : World} {A : Around} {E : Value → Shared → Prop} {s : Shared}
theorem jb_own {b : Array UInt8} {t : Tok} {Q : Bool → Shared → Prop} (h : Q true s) : wpAny M A (Bytes.slotIsOwn (.bytes b t) "__buffer__") Q E s := by
  unfold Bytes.slotIsOwn
  refine PySem.wpAny_bind (wpAny_specialOf (PySem.W.typeIs_bytes s b t) jb_buf ?_)
  dsimp only
  refine bm_if_false (by decide +kernel) ?_
  refine wpAny_isInstance (b := true) (PySem.W.typeIs_bytes s b t) ?_ h
  rw [show ("bytes.__buffer__".dropRight ("__buffer__".length + 1)) = "bytes" from by decide +kernel]
  rw [isSubtype_type]; kernel_rfl
theorem jb_take {id : String} {b : Array UInt8} {t : Tok} {Q : Option (Array UInt8 × Option Value) → Shared → Prop} (h : Q (some (b, none)) s) : wpAny M A (Bytes.takeBufferQuiet? id (.bytes b t) 0) Q E s := by
  have hT := PySem.W.typeIs_bytes s b t
  unfold Bytes.takeBufferQuiet?
  refine PySem.wpAny_bind (PySem.wpAny_attempt ?_)
  unfold Bytes.takeBuffer?
  refine PySem.wpAny_bind (wpAny_specialOf hT jb_buf ?_)
  dsimp only
  refine PySem.wpAny_bind (jb_own ?_)
  refine bm_if_false rfl ?_
  refine PySem.wpAny_bind (wpAny_specialOf hT jb_buf ?_)
  show wpAny _ _ (Bytes.buffer? id (Value.bytes b t) (0 == Bytes.fullReadOnly) >>= fun x => pure (Option.map (fun x => (x, none)) x)) _ _ _
  refine PySem.wpAny_bind ?_
  unfold Bytes.buffer?
  refine PySem.wpAny_bind (wpAny_specialOf hT jb_buf ?_)
  dsimp only
  refine PySem.wpAny_bind (jb_own ?_)
  refine bm_if_false rfl ?_
  refine PySem.wpAny_bind (wpAny_specialOf hT jb_buf ?_)
  show wpAny _ _ (Bytes.ownRelease (Value.bytes b t) >>= fun _ => _) _ _ _
  unfold Bytes.ownRelease Bytes.slotIsOwn
  refine PySem.wpAny_bind (PySem.wpAny_bind (PySem.wpAny_bind (wpAny_specialOf hT jb_rel ?_)))
  refine PySem.wpAny_pure (PySem.wpAny_pure ?_)
  refine bm_if_false rfl ?_
  refine PySem.wpAny_bind (PySem.wpAny_pure (PySem.wpAny_pure (PySem.wpAny_pure (PySem.wpAny_pure ?_))))
  exact h
def TakenOk (ps : List (Value × Option Value)) : Prop := ∀ q ∈ ps, ∃ b t, q = (.bytes b t, none)
theorem jb_letgo : ∀ {ps : List (Value × Option Value)} {keep : List Value} {Q : Unit → Shared → Prop}, TakenOk ps → Q () s → wpAny M A (Bytes.joinLetGo ps keep) Q E s
  | [], _, _, _, h => PySem.wpAny_pure h
  | q :: ps, keep, Q, hp, h => by
    obtain ⟨b, t, rfl⟩ := hp q (.head _)
    unfold Bytes.joinLetGo
    dsimp only
    refine PySem.wpAny_bind ?_
    refine wpAny_letGo ?_
    exact jb_letgo (fun q hq => hp q (.tail _ hq)) h
theorem jb_any : ∀ {ps : List (Value × Option Value)}, TakenOk ps → ps.any (·.1.onHeap) = false
  | [], _ => rfl
  | q :: ps, hp => by
    obtain ⟨b, t, rfl⟩ := hp q (.head _)
    rw [List.any_cons, jb_any (fun q hq => hp q (.tail _ hq))]
    rfl
theorem joined_go : ∀ (bs : List (Array UInt8)) (n : Nat) (acc : Array UInt8), (bs.zipIdx n).foldl (fun out (p, i) => (if i > 0 then out ++ #[] else out) ++ p) acc = acc ++ jflat bs
  | [], n, acc => by simp [jflat]
  | b :: bs, n, acc => by
    rw [List.zipIdx_cons, List.foldl_cons]
    have e : (if n > 0 then acc ++ #[] else acc) ++ b = acc ++ b := by split <;> simp
    show List.foldl _ ((if n > 0 then acc ++ #[] else acc) ++ b) _ = _
    rw [e, joined_go bs (n + 1) (acc ++ b)]
    apply Array.toList_inj.mp
    simp [jflat]
theorem joined_eq (bs : List (Array UInt8)) : Bytes.joined #[] bs = jflat bs := by
  unfold Bytes.joined
  rw [joined_go bs 0 #[]]
  simp
theorem sizes_go : ∀ (bs : List (Array UInt8)) (k : Nat), bs.foldl (fun x y => x + y.size) k = k + (jflat bs).size
  | [], k => by simp [jflat]
  | b :: bs, k => by
    rw [List.foldl_cons, sizes_go bs, jflat_size, jflat_size]
    simp
    omega
theorem jb_join {l : Addr} {vs : List Value} {bs : List (Array UInt8)} {n : Nat} {t : Tok} {Q : Value → Shared → Prop} (hl : s.heap.get? l = some (W.listOf vs.toArray n)) (hb : BytesAre vs bs) (hz : (jflat bs).size ≤ 16777216)
    (h : ∀ t' k, Q (.bytes (jflat bs) t') { s with toks := k }) : wpAny (model prog w) A (call (.builtin "bytes.join") [.bytes #[] t, .ref l]) Q E s := by
  have hT : s.TypeIs (.bytes #[] t) "bytes" := PySem.W.typeIs_bytes s #[] t
  refine wpAny_call_entry jb_slot hT jb_entry ?_ (jb_args _ _)
  have hLT : s.TypeIs (.ref l) "list" := ⟨_, hl, rfl⟩
  have items : ∀ {Q' : Option (Array Value) → Shared → Prop}, Q' (some vs.toArray) s → wpAny (model prog w) A.in1 (seqItems? (.ref l)) Q' E s := fun hq => by
    unfold seqItems?
    exact PySem.wpAny_bind (PySem.wpAny_load hl (PySem.wpAny_pure hq))
  unfold Builtin.«bytes.join» Bytes.joinM
  refine PySem.wpAny_bind (PySem.wpAny_of_eq (a := (Value.bytes #[] t, Value.ref l)) rfl ?_)
  dsimp only
  refine bm_if_true (by decide) ?_
  refine PySem.wpAny_bind ?_
  unfold Bytes.joinItems
  refine PySem.wpAny_bind (wpAny_typeOf hLT ?_)
  refine bm_if_true (by decide) ?_
  refine PySem.wpAny_pure ?_
  refine PySem.wpAny_bind (items ?_)
  dsimp only
  refine bm_if_true (by decide) ?_
  generalize harr : vs.toArray = arr at items ⊢
  unfold Bytes.joinM.match_1
  split
  · rename_i h1
    have hv : ∃ b t₁, vs = [.bytes b t₁] ∧ bs = [b] := by
      have hl1 : vs.length = 1 := by rw [← harr] at h1; simpa using h1
      cases hb with
      | nil => simp at hl1
      | cons b t₁ hb' =>
        cases hb' with
        | nil => exact ⟨b, t₁, rfl, rfl⟩
        | cons _ _ _ => simp at hl1
    obtain ⟨b, t₁, rfl, rfl⟩ := hv
    subst harr
    refine PySem.wpAny_bind (wpAny_typeOf (PySem.W.typeIs_bytes s b t₁) ?_)
    refine bm_if_true (by decide) ?_
    refine PySem.wpAny_bind (PySem.wpAny_rule ?_)
    have h' := h t₁ s.toks
    have e : jflat [b] = b := by simp [jflat]
    rw [e] at h'
    exact PySem.wpAny_pure ⟨_, rfl, h'⟩
  · subst harr
    refine PySem.wpAny_bind ?_
    rw [Std.Legacy.Range.forIn_eq_forIn_range']
    simp only [Std.Legacy.Range.size, Nat.sub_zero, Nat.add_sub_cancel, Nat.div_one]
    have hlen := hb.length
    refine wpAny_forIn_list _
      (fun rest q s' => s' = s ∧ ∃ i, rest = List.range' i (vs.toArray.size - i) ∧ i ≤ bs.length ∧ q.1 = (bs.take i).toArray ∧ TakenOk q.2)
      _ ?_ ?_ _ _ ⟨rfl, 0, by simp, Nat.zero_le _, by simp, fun _ hq => nomatch hq⟩
    · rintro x rest ⟨parts, taken⟩ s' ⟨rfl, i, hr, hi, hp, ht⟩
      have hsz : vs.toArray.size = bs.length := by simp [hlen]
      rw [hsz] at hr
      have hlt : i < bs.length := by
        rcases Nat.lt_or_ge i bs.length with h | h
        · exact h
        · rw [Nat.sub_eq_zero_of_le h] at hr; simp at hr
      obtain ⟨rfl, hrest⟩ : x = i ∧ rest = List.range' (i + 1) (bs.length - (i + 1)) := by
        have e : bs.length - i = (bs.length - (i + 1)) + 1 := by omega
        rw [e, List.range'_succ] at hr
        injection hr with h1 h2
        exact ⟨h1, h2⟩
      refine PySem.wpAny_bind (items ?_)
      dsimp only
      refine bm_if_false (by rw [jb_any ht]; rfl) ?_
      obtain ⟨t₁, hx⟩ := hb.get (List.getElem?_eq_getElem hlt)
      have hx' : vs.toArray.getD x .none = .bytes bs[x] t₁ := by simp [Array.getD_eq_getD_getElem?, hx]
      rw [hx']
      refine PySem.wpAny_bind (PySem.wpAny_holding (jb_take ?_))
      dsimp only
      refine PySem.wpAny_bind (items ?_)
      dsimp only
      refine bm_if_false (by simp) ?_
      refine PySem.wpAny_pure ⟨rfl, x + 1, ?_, hlt, ?_, ?_⟩
      · rw [hrest, hsz]
      · dsimp only at hp ⊢
        rw [hp, List.take_add_one, List.getElem?_eq_getElem hlt]
        simp
      · intro q hq
        rcases List.mem_append.mp hq with hq | hq
        · exact ht q hq
        · cases List.mem_singleton.mp hq; exact ⟨_, _, rfl⟩
    · rintro ⟨parts, taken⟩ s' ⟨rfl, i, hr, hi, hp, ht⟩
      have hsz : vs.toArray.size = bs.length := by simp [hlen]
      have hi' : i = bs.length := by
        rw [hsz] at hr
        have := congrArg List.length hr
        simp at this
        omega
      subst hi'
      rw [List.take_length] at hp
      dsimp only at hp ht ⊢
      subst hp
      refine PySem.wpAny_bind ?_
      unfold Bytes.payload Bytes.payload?
      refine PySem.wpAny_bind (PySem.wpAny_pure (PySem.wpAny_pure ?_))
      have hsum : Array.foldl (fun x1 x2 => x1 + x2.size) ((#[] : Array UInt8).size * (bs.toArray.size - 1)) bs.toArray = (jflat bs).size := by
        rw [← Array.foldl_toList]
        simp [sizes_go]
      refine bm_if_false (by rw [hsum]; unfold Bytes.tooLong; simp only [decide_eq_false_iff_not]; rw [PySem.sizeLine_eq]; omega) ?_
      have hj : Bytes.joined #[] bs.toArray.toList = jflat bs := joined_eq bs
      rw [hj]
      refine PySem.wpAny_bind (wpAny_mkBytes ?_ (by rw [PySem.sizeLine_eq]; exact hz))
      refine PySem.wpAny_bind (PySem.wpAny_holding (wpAny_point ?_))
      refine PySem.wpAny_bind (jb_letgo ht ?_)
      exact PySem.wpAny_pure ⟨_, rfl, h _ _⟩
end
/-- the parts of a profile: what a list of segments tells -/
noncomputable def iccN : List UInt8 := [73, 67, 67, 95, 80, 82, 79, 70, 73, 76, 69, 0]
noncomputable def pNum (b : Array UInt8) (i : Nat) : Int := ((b.toList.getD i 0).toNat : Int)
inductive Ps
  | st (many : Option Int) (kvs : List (Int × Array UInt8))
  | bad
noncomputable def hasKey (kvs : List (Int × Array UInt8)) (k : Int) : Bool := kvs.any fun p => p.1 = k
def otherMany (many : Option Int) (c : Int) : Prop := ∃ m, many = some m ∧ m ≠ c
open Classical in
noncomputable def pPut (many : Option Int) (kvs : List (Int × Array UInt8)) (b : Array UInt8) : Ps :=
    if ¬ (KBy.picked b Option.none (some 12)).toList = iccN then .st many kvs
    else if b.size < 14 ∨ ¬ (1 ≤ pNum b 12 ∧ pNum b 12 ≤ pNum b 13) then .bad
    else if otherMany many (pNum b 13) ∨ hasKey kvs (pNum b 12) = true then .bad
    else .st (some (pNum b 13)) (kvs ++ [(pNum b 12, KBy.picked b (some 14) Option.none)])
noncomputable def pStep (p : Ps) (b : Array UInt8) : Ps :=
  match p with
  | .bad => .bad
  | .st many kvs => pPut many kvs b
theorem pStep_st {many : Option Int} {kvs : List (Int × Array UInt8)} {b : Array UInt8} : pStep (.st many kvs) b = pPut many kvs b := rfl
noncomputable def pFold (bs : List (Array UInt8)) : Ps := bs.foldl pStep (.st none [])
theorem pFold_snoc {bs : List (Array UInt8)} {i : Nat} {b : Array UInt8} (h : bs[i]? = some b) : pFold (bs.take (i + 1)) = pStep (pFold (bs.take i)) b := by
  unfold pFold
  rw [List.take_add_one, h, List.foldl_append]
  rfl
theorem pStep_bad (b : Array UInt8) : pStep .bad b = .bad := rfl
theorem fold_bad : ∀ bs : List (Array UInt8), bs.foldl pStep .bad = .bad
  | [] => rfl
  | _ :: bs => fold_bad bs
theorem pFold_bad {bs : List (Array UInt8)} {i : Nat} (h : pFold (bs.take i) = .bad) : pFold bs = .bad := by
  have e : bs = bs.take i ++ bs.drop i := (List.take_append_drop i bs).symm
  unfold pFold at h ⊢
  rw [e, List.foldl_append, h, fold_bad]
theorem pStep_skip {many : Option Int} {kvs : List (Int × Array UInt8)} {b : Array UInt8} (h : ¬ (KBy.picked b Option.none (some 12)).toList = iccN) : pStep (.st many kvs) b = .st many kvs := if_pos h
theorem pStep_short {many : Option Int} {kvs : List (Int × Array UInt8)} {b : Array UInt8} (h : (KBy.picked b Option.none (some 12)).toList = iccN) (h2 : b.size < 14 ∨ ¬ (1 ≤ pNum b 12 ∧ pNum b 12 ≤ pNum b 13)) : pStep (.st many kvs) b = .bad := by
  rw [pStep_st]; unfold pPut
  rw [if_neg (fun z => z h), if_pos h2]
theorem pStep_unfit {many : Option Int} {kvs : List (Int × Array UInt8)} {b : Array UInt8} (h : (KBy.picked b Option.none (some 12)).toList = iccN) (h2 : otherMany many (pNum b 13) ∨ hasKey kvs (pNum b 12) = true) : pStep (.st many kvs) b = .bad := by
  rw [pStep_st]; unfold pPut
  rw [if_neg (fun z => z h), if_pos h2, ite_self]
theorem pStep_put {many : Option Int} {kvs : List (Int × Array UInt8)} {b : Array UInt8} (h : (KBy.picked b Option.none (some 12)).toList = iccN) (h1 : ¬ b.size < 14) (h2 : 1 ≤ pNum b 12) (h3 : pNum b 12 ≤ pNum b 13) (h4 : ¬ otherMany many (pNum b 13)) (h5 : hasKey kvs (pNum b 12) = false) :
    pStep (.st many kvs) b = .st (some (pNum b 13)) (kvs ++ [(pNum b 12, KBy.picked b (some 14) Option.none)]) := by
  rw [pStep_st]; unfold pPut
  rw [if_neg (fun z => z h), if_neg (fun z => z.elim h1 fun q => q ⟨h2, h3⟩), if_neg (fun z => z.elim h4 fun q => by rw [h5] at q; cases q)]
theorem pNum_lt (b : Array UInt8) (i : Nat) : 0 ≤ pNum b i ∧ pNum b i < 256 := by
  unfold pNum
  have := (b.toList.getD i 0).toNat_lt
  omega
/-- what holds of every state: the keys differ and lie in 1 .. many -/
def PsOk : Ps → Prop
  | .bad => True
  | .st none kvs => kvs = []
  | .st (some m) kvs => m < 256 ∧ (kvs.map (·.1)).Nodup ∧ ∀ p ∈ kvs, 1 ≤ p.1 ∧ p.1 ≤ m
theorem hasKey_false {kvs : List (Int × Array UInt8)} {k : Int} (h : hasKey kvs k = false) : k ∉ kvs.map (·.1) := by
  intro hm
  obtain ⟨p, hp, e⟩ := List.mem_map.mp hm
  unfold hasKey at h
  rw [List.any_eq_false] at h
  exact h p hp (by simp [e])
theorem pStep_ok {p : Ps} {b : Array UInt8} (h : PsOk p) : PsOk (pStep p b) := by
  cases p with
  | bad => trivial
  | st many kvs =>
    rw [pStep_st]; unfold pPut
    split
    · exact h
    · split
      · trivial
      · split
        · trivial
        · rename_i h1 h2 h3
          have hk : hasKey kvs (pNum b 12) = false := by
            cases q : hasKey kvs (pNum b 12) with
            | false => rfl
            | true => exact absurd (Or.inr q) h3
          have hm : ¬ otherMany many (pNum b 13) := fun z => h3 (.inl z)
          have hr : 1 ≤ pNum b 12 ∧ pNum b 12 ≤ pNum b 13 := Classical.byContradiction fun z => h2 (.inr z)
          refine ⟨(pNum_lt b 13).2, ?_, ?_⟩
          · rw [List.map_append, List.nodup_append]
            refine ⟨?_, by simp, ?_⟩
            · cases many with
              | none => rw [show kvs = [] from h]; exact List.nodup_nil
              | some m => exact h.2.1
            · intro a ha c hc e
              simp at hc
              subst hc
              exact hasKey_false hk (e ▸ ha)
          · intro q hq
            rcases List.mem_append.mp hq with hq | hq
            · cases many with
              | none => rw [show kvs = [] from h] at hq; cases hq
              | some m =>
                have e : m = pNum b 13 := Classical.byContradiction fun z => hm ⟨m, rfl, z⟩
                rw [← e]
                exact h.2.2 q hq
            · cases List.mem_singleton.mp hq
              exact hr
theorem fold_ok : ∀ (bs : List (Array UInt8)) (p : Ps), PsOk p → PsOk (bs.foldl pStep p)
  | [], _, h => h
  | b :: bs, p, h => fold_ok bs _ (pStep_ok h)
theorem pFold_ok (bs : List (Array UInt8)) : PsOk (pFold bs) := fold_ok bs _ rfl
theorem pStep_len {p : Ps} {b : Array UInt8} {n : Nat} {many : Option Int} {kvs : List (Int × Array UInt8)} (h : ∀ m c, p = .st m c → c.length ≤ n) (e : pStep p b = .st many kvs) : kvs.length ≤ n + 1 := by
  cases p with
  | bad => cases e
  | st m c =>
    have := h m c rfl
    rw [pStep_st] at e; unfold pPut at e
    split at e
    · cases e; omega
    · split at e
      · cases e
      · split at e
        · cases e
        · cases e; simp; omega
theorem pFold_len {bs : List (Array UInt8)} : ∀ {i : Nat} {many : Option Int} {kvs : List (Int × Array UInt8)}, i ≤ bs.length → pFold (bs.take i) = .st many kvs → kvs.length ≤ i
  | 0, _, _, _, e => by
    simp only [List.take_zero] at e
    cases e
    simp
  | i + 1, _, _, hi, e => by
    rw [pFold_snoc (List.getElem?_eq_getElem hi)] at e
    exact pStep_len (fun m c e' => pFold_len (i := i) (by omega) e') e
/-- what joined_profile tells -/
inductive Jd
  | none
  | bad
  | ok (b : Array UInt8)
noncomputable def lookK (kvs : List (Int × Array UInt8)) (k : Int) : Array UInt8 := ((kvs.find? fun p => p.1 = k).map (·.2)).getD #[]
noncomputable def joinedOf (m : Int) (kvs : List (Int × Array UInt8)) : Array UInt8 := jflat ((rangeKs 1 m.toNat).map (lookK kvs))
open Classical in
noncomputable def joinRd (bs : List (Array UInt8)) : Jd :=
  match pFold bs with
  | .bad => .bad
  | .st none _ => .none
  | .st (some m) kvs => if (kvs.length : Int) = m then .ok (joinedOf m kvs) else .bad
theorem joinRd_bad {bs : List (Array UInt8)} (h : pFold bs = .bad) : joinRd bs = .bad := by unfold joinRd; rw [h]
theorem joinRd_none {bs : List (Array UInt8)} {kvs : List (Int × Array UInt8)} (h : pFold bs = .st none kvs) : joinRd bs = .none := by unfold joinRd; rw [h]
theorem joinRd_lack {bs : List (Array UInt8)} {kvs : List (Int × Array UInt8)} {m : Int} (h : pFold bs = .st (some m) kvs) (e : ¬ (kvs.length : Int) = m) : joinRd bs = .bad := by unfold joinRd; rw [h]; exact if_neg e
theorem joinRd_ok {bs : List (Array UInt8)} {kvs : List (Int × Array UInt8)} {m : Int} (h : pFold bs = .st (some m) kvs) (e : (kvs.length : Int) = m) : joinRd bs = .ok (joinedOf m kvs) := by unfold joinRd; rw [h]; exact if_pos e
/-- keys that differ, as many as there are numbers, are all the numbers -/
theorem full_mem : ∀ (n : Nat) (l : List Int), l.Nodup → (∀ k ∈ l, 1 ≤ k ∧ k ≤ (n : Int)) → l.length = n → ∀ k : Int, 1 ≤ k → k ≤ n → k ∈ l
  | 0, _, _, _, _, k, h1, h2 => by omega
  | n + 1, l, hd, hb, hl, k, h1, h2 => by
    by_cases hm : ((n + 1 : Nat) : Int) ∈ l
    · by_cases e : k = ((n + 1 : Nat) : Int)
      · exact e ▸ hm
      · have hd' := hd.erase ((n + 1 : Nat) : Int)
        have := full_mem n (l.erase ((n + 1 : Nat) : Int)) hd' (fun q hq => by
          have h3 := hb q (List.mem_of_mem_erase hq)
          have h4 : q ≠ ((n + 1 : Nat) : Int) := fun z => by
            rw [z] at hq
            exact (List.Nodup.mem_erase_iff hd).mp hq |>.1 rfl
          omega) (by rw [List.length_erase_of_mem hm]; omega) k h1 (by omega)
        exact List.mem_of_mem_erase this
    · exfalso
      have hb' : ∀ q ∈ l, 1 ≤ q ∧ q ≤ (n : Int) := fun q hq => by
        have h3 := hb q hq
        have h4 : q ≠ ((n + 1 : Nat) : Int) := fun z => hm (z ▸ hq)
        omega
      match l, hd, hl, hb' with
      | [], _, hl, _ => simp at hl
      | a :: l', hd, hl, hb' =>
        have hd2 := (List.nodup_cons.mp hd)
        have := full_mem n l' hd2.2 (fun q hq => hb' q (.tail _ hq)) (by simpa using hl) a (hb' a (.head _)).1 (hb' a (.head _)).2
        exact hd2.1 this
/-- a loop over a list of the ledger: one name bears a value that turns (v), the names of st are forgotten; J speaks of the turn's number, the value and the ledger -/
theorem lst_loop {prog : Program} {w : World} {A : Around} {E : Value → Shared → Prop} {s : Shared} {env : Env} {h₀ : Heap} {x nm : Str} {body : List Stmt} {Q : Flow → Shared → Prop}
    {l : Addr} {vs : List Value} {nn : Nat} {m₀ : Str → Option Value} {news : List (Addr × Obj)} {v₀ : Value} (st : List Str) (J : Nat → Value → List (Addr × Obj) → Prop)
    (hh : A.handled = none) (hl : (l, W.listOf vs.toArray nn) ∈ news) (F : Fr h₀ env.locals s.heap m₀) (N : News h₀ env.locals s.heap news) (hv : m₀ nm = some v₀) (hj : J 0 v₀ news)
    (turn : ∀ (i : Nat) (u v : Value) (m₁ : Str → Option Value) (nx : List (Addr × Obj)) (h : Heap) (tk : Nat) (own : List (Addr × Obj)), vs[i]? = some u → OwnOff own (nx.map (·.1)) → (l, W.listOf vs.toArray nn) ∈ nx → J i v nx →
      Fr h₀ env.locals h (fun y => if y = x then some u else if y = nm then some v else if st.contains y then m₁ y else m₀ y) → News h₀ env.locals h (nx ++ own) →
      wpAny (model prog w) A (execs body env) (InvPostG h₀ env.locals (fun m nx => (l, W.listOf vs.toArray nn) ∈ nx ∧ (∃ v', m nm = some v' ∧ J (i + 1) v' nx) ∧ ∀ z, z ≠ x → z ≠ nm → st.contains z = false → m z = m₀ z) own { s with heap := h, toks := tk } Q) E { s with heap := h, toks := tk })
    (done : ∀ (v : Value) (m₁ : Str → Option Value) (nx : List (Addr × Obj)) (h : Heap) (tk : Nat), J vs.length v nx →
      Fr h₀ env.locals h (fun y => if y = x then m₁ y else if y = nm then some v else if st.contains y then m₁ y else m₀ y) → News h₀ env.locals h nx → Q .next { s with heap := h, toks := tk })
    (hx : x ≠ nm) : wpAny (model prog w) A (pyIter (.ref l)) (fun it s₂ => LoopAtV prog w A h₀ env x body Q E it s₂) E s := by
  have fe : ∀ (m₁ : Str → Option Value) (u : Option Value) (v : Value), m₁ nm = some v → (∀ z, z ≠ x → z ≠ nm → st.contains z = false → m₁ z = m₀ z) →
      (fun y => if y = x then u else m₁ y) = (fun y => if y = x then u else if y = nm then some v else if st.contains y then m₁ y else m₀ y) := fun m₁ u v hv hm => by
    funext y
    by_cases h1 : y = x
    · simp [h1]
    · simp only [if_neg h1]
      by_cases h3 : y = nm
      · simp [h3, hv]
      · simp only [if_neg h3]
        cases h2 : st.contains y with
        | true => rfl
        | false => exact hm y h1 h3 h2
  refine kdl_iter (fun i m nx => (∃ v, m nm = some v ∧ J i v nx) ∧ ∀ z, z ≠ x → z ≠ nm → st.contains z = false → m z = m₀ z) hh hl F N ⟨⟨v₀, hv, hj⟩, fun _ _ _ _ => rfl⟩ ?_ ?_
  · rintro i u m₁ nx h tk own hu ho hln ⟨⟨v, hv', hJ⟩, hm⟩ F₁ N₁
    rw [fe m₁ _ v hv' hm] at F₁
    exact turn i u v m₁ nx h tk own hu ho hln hJ F₁ N₁
  · rintro m₁ nx h tk ⟨⟨v, hv', hJ⟩, hm⟩ F₁ N₁
    refine done v m₁ nx h tk hJ ?_ N₁
    have e3 : m₁ = (fun y => if y = x then m₁ y else if y = nm then some v else if st.contains y then m₁ y else m₀ y) := by
      funext y
      by_cases h1 : y = x
      · simp [h1]
      · simp only [if_neg h1]
        by_cases h3 : y = nm
        · simp [h3, hv']
        · simp only [if_neg h3]
          cases h2 : st.contains y with
          | true => rfl
          | false => exact hm y h1 h3 h2
    rw [← e3]; exact F₁
/-- octets under ints -/
inductive KvAre : List (Int × Value) → List (Int × Array UInt8) → Prop
  | nil : KvAre [] []
  | cons {vs : List (Int × Value)} {bs : List (Int × Array UInt8)} (k : Int) (b : Array UInt8) (t : Tok) : KvAre vs bs → KvAre ((k, .bytes b t) :: vs) ((k, b) :: bs)
theorem KvAre.length {vs : List (Int × Value)} {bs : List (Int × Array UInt8)} (h : KvAre vs bs) : vs.length = bs.length := by
  induction h with
  | nil => rfl
  | cons k b t _ ih => simp [ih]
theorem KvAre.snoc {vs : List (Int × Value)} {bs : List (Int × Array UInt8)} (h : KvAre vs bs) (k : Int) (b : Array UInt8) (t : Tok) : KvAre (vs ++ [(k, .bytes b t)]) (bs ++ [(k, b)]) := by
  induction h with
  | nil => exact .cons k b t .nil
  | cons k b t _ ih => exact .cons k b t ih
theorem KvAre.keys {vs : List (Int × Value)} {bs : List (Int × Array UInt8)} (h : KvAre vs bs) : vs.map (·.1) = bs.map (·.1) := by
  induction h with
  | nil => rfl
  | cons k b t _ ih => simp [ih]
theorem KvAre.has {vs : List (Int × Value)} {bs : List (Int × Array UInt8)} (h : KvAre vs bs) (k : Int) : (valueAt vs k).isSome = hasKey bs k := by
  induction h with
  | nil => rfl
  | cons j b t _ ih =>
    unfold valueAt hasKey at ih ⊢
    rw [List.find?_cons, List.any_cons]
    by_cases e : j = k
    · simp [e]
    · simp only [e, decide_false, Bool.false_or]
      exact ih
theorem KvAre.look {vs : List (Int × Value)} {bs : List (Int × Array UInt8)} (h : KvAre vs bs) {k : Int} (hk : k ∈ bs.map (·.1)) : ∃ t, valueAt vs k = some (.bytes (lookK bs k) t) := by
  induction h with
  | nil => cases hk
  | cons j b t _ ih =>
    unfold valueAt lookK at ih ⊢
    rw [List.find?_cons, List.find?_cons]
    by_cases e : j = k
    · exact ⟨t, by simp [e]⟩
    · simp only [e, decide_false]
      refine ih ?_
      rw [List.map_cons] at hk
      rcases List.mem_cons.mp hk with z | z
      · exact absurd z.symm e
      · exact z
theorem KvAre.put {vs : List (Int × Value)} {bs : List (Int × Array UInt8)} (h : KvAre vs bs) {k : Int} (hk : hasKey bs k = false) (b : Array UInt8) (t : Tok) : KvAre (stored vs k (.bytes b t)) (bs ++ [(k, b)]) := by
  have hn : valueAt vs k = none := by
    have := h.has k
    rw [hk] at this
    simpa using this
  rw [stored_absent hn]
  exact h.snoc k b t
section
variable {prog : Program} {w : World} {A : Around} {E : Value → Shared → Prop} {s : Shared} {h₀ : Heap} {L d : Addr} {m : Str → Option Value} {news : List (Addr × Obj)} {g : Obj → List (Addr × Obj)} {o : Obj} {kw : List (Int × Value)} {kvs : List (Int × Array UInt8)} {k : Int} {tk : Tok}
theorem my_itemP {value slice : PySem.Expr} {b : Array UInt8} {t ui : Tok} {i : Int} {Q : Value → Shared → Prop} (j : Nat) (e : i = (j : Int)) (hfit : b.size ≤ 16777216) (h1 : j < b.size) (h : ∀ t' k, Q (.int (pNum b j) t') { s with toks := k })
    (hs : subscripted slice false (.bytes b t) (.int i ui) = operate [.bytes b t, .int i ui] (getItem (.bytes b t) (.int i ui)) := by with_unfolding_all rfl)
    (ht : ∀ r, letTemporaryGo value (.bytes b t) r = pure () := by intro _; with_unfolding_all rfl) :
    wpAny (model prog w) A (subscriptTail value slice (.bytes b t) (.int i ui)) Q E s := by
  subst e
  exact my_item hfit (by omega) (by omega) (fun c t' k hc _ _ => by rw [hc]; exact h t' k) hs ht
theorem dict_has {Q : Value → Shared → Prop} (N : News h₀ L s.heap news) (hp : (d, o) ∈ news) (hd : o.IsDictOf (PySem.intKind prog w) kw) (kv : KvAre kw kvs) (lo : (d == sysModules) = false) (h : Q (.bool (hasKey kvs k)) { s with toks := s.toks + 1 }) :
    wpAny (model prog w) A (compareOp .In (.int k tk) (.ref d)) Q E s := kda_in N hp hd lo (intKind_is _ _ _ _) _ (kv.has k) h
theorem dict_put {b : Array UInt8} {t : Tok} {Q : Unit → Shared → Prop} (F : Fr h₀ L s.heap m) (N : News h₀ L s.heap news) (U : UpdF d o news g) (hd : o.IsDictOf (PySem.intKind prog w) kw) (kv : KvAre kw kvs) (hk : hasKey kvs k = false) (hz : kvs.length ≤ 1000)
    (h : ∀ h' o' kw', Fr h₀ L h' m → News h₀ L h' (g o') → o'.IsDictOf (PySem.intKind prog w) kw' → KvAre kw' (kvs ++ [(k, b)]) → Q () { s with heap := h', toks := s.toks + 1 }) : wpAny (model prog w) A (setItem (.ref d) (.int k tk) (.bytes b t)) Q E s :=
  kda_set F N U hd (intKind_is _ _ _ _) (by rw [PySem.sizeLine_eq, kv.length]; omega) fun h' o' F' N' hd' => h h' o' _ F' N' hd' (kv.put hk b t)
theorem dict_len {Q : Value → Shared → Prop} (N : News h₀ L s.heap news) (hp : (d, o) ∈ news) (hd : o.IsDictOf (PySem.intKind prog w) kw) (kv : KvAre kw kvs) (lo : (d == sysModules) = false) (hz : kvs.length ≤ 1000) (h : ∀ t k, Q (.int kvs.length t) { s with toks := k }) :
    wpAny (model prog w) A (call (.builtin "len") [.ref d]) Q E s := kda_len N hp hd lo (by rw [kv.length]; omega) (by rw [kv.length]; exact h _ _)
theorem dict_at {value slice : PySem.Expr} {Q : Value → Shared → Prop} (N : News h₀ L s.heap news) (hp : (d, o) ∈ news) (hd : o.IsDictOf (PySem.intKind prog w) kw) (kv : KvAre kw kvs) (hk : k ∈ kvs.map (·.1)) (h : ∀ t, Q (.bytes (lookK kvs k) t) { s with toks := s.toks + 1 })
    (hs : subscripted slice false (.ref d) (.int k tk) = operate [.ref d, .int k tk] (getItem (.ref d) (.int k tk)) := by with_unfolding_all rfl) (hg : ∀ r, letTemporaryGo value (.ref d) r = pure () := by intro _; with_unfolding_all rfl) :
    wpAny (model prog w) A (subscriptTail value slice (.ref d) (.int k tk)) Q E s := by
  obtain ⟨t, ht⟩ := kv.look hk
  exact kda_item N hp hd (intKind_is _ _ _ _) ht (h t) hs hg
end
/-- the value of the name that bears the number of parts -/
def ManyV (v : Value) (many : Option Int) : Prop := (many = none ∧ v = .none) ∨ ∃ m t, many = some m ∧ v = .int m t
theorem take_bad {bs : List (Array UInt8)} {i : Nat} {b : Array UInt8} {many : Option Int} {kvs : List (Int × Array UInt8)} (hb : bs[i]? = some b) (hp : pFold (bs.take i) = .st many kvs) (h : pStep (.st many kvs) b = .bad) : pFold bs = .bad :=
  pFold_bad (i := i + 1) (by rw [pFold_snoc hb, hp, h])
theorem take_to {bs : List (Array UInt8)} {i : Nat} {b : Array UInt8} {many many' : Option Int} {kvs kvs' : List (Int × Array UInt8)} (hb : bs[i]? = some b) (hp : pFold (bs.take i) = .st many kvs) (h : pStep (.st many kvs) b = .st many' kvs') : pFold (bs.take (i + 1)) = .st many' kvs' := by
  rw [pFold_snoc hb, hp, h]

theorem lay_73 : True := by
  k_with "subscriptTail" => (k_here; (with_reducible show wpAny _ _ (subscriptTail _ _ (Value.bytes _ _) (Value.int _ _)) _ _ _); k_dflt (first | (refine' my_itemP 12 ?e₉ ?z₉ ?h1₉ ?_; (case e₉ => exact rfl); (case z₉ => first | assumption | omega); (case h1₉ => omega); intro t'₉ k'₉) | (refine' my_itemP 13 ?e₉ ?z₉ ?h1₉ ?_; (case e₉ => exact rfl); (case z₉ => first | assumption | omega); (case h1₉ => omega); intro t'₉ k'₉)))
  k_with "compareOp In int ref" => (k_here; (with_reducible show wpAny _ _ (compareOp CmpOp.In (Value.int _ _) (Value.ref _)) _ _ _); k_dflt (refine' dict_has ?N₉ ?m₉ ?d₉ ?kv₉ ?lo₉ ?_; (case N₉ => k_asm); (case m₉ => k_mem); (case d₉ => assumption); (case kv₉ => assumption); (case lo₉ => assumption)))
  k_with "setItem ref int" => (k_here; (with_reducible show wpAny _ _ (setItem (Value.ref _) (Value.int _ _) (Value.bytes _ _)) _ _ _); k_dflt (refine' dict_put ?F₉ ?N₉ ?U₉ ?d₉ ?kv₉ ?hk₉ ?z₉ ?_; (case F₉ => k_asm); (case N₉ => k_asm); (case U₉ => k_updF); (case d₉ => assumption); (case kv₉ => assumption); (case hk₉ => assumption); (case z₉ => omega)); intro h'₉ o'₉ kw'₉ F'₉ N'₉ hd'₉ kv'₉; (try dsimp only at N'₉); (try k_sweep))
  trivial

section
theorem lay_74_0 : True := by
  k_with "pyIter ref" => (k_here; (with_reducible show wpAny _ (Around.deeper _ (envOf (Str.ofString "parts_by_number") _ _ _ _)) _ _ _ _); refine Hold.of ?_)
  trivial
theorem parts_raw {w : World} {p : Program} {loose : List Str} {mean : ExcName → Option Value} {mg mb : Str → Option Value}
    {dp un : Nat} {gd : Option (List Code)} {l : List Env} {base : Heap} {s : Shared} {Q E : Value → Shared → Prop} {a : Addr} {vs : List Value} {bs : List (Array UInt8)} {n : Nat}
    (B : Below (Ar dp un gd l) base l s.heap) (X : (Mine.pre.heap_1 w.params).In base) (T : Top p loose mean mg mb base)
    (ha : s.heap.get? a = some (W.listOf vs.toArray n)) (hab : base.get? a = none) (hal : a ∉ l.filterMap (·.frame)) (hb : BytesAre vs bs) (hbz : ∀ b ∈ bs, b.size ≤ 1000) (hbl : bs.length ≤ 300)
    (hd : dp + 20 < recursionLimit) (hu : un + 100 < cLine)
    (hret : ∀ (r d : Addr) (o : Obj) (v : Value) (many : Option Int) (kvs : List (Int × Array UInt8)) (kw : List (Int × Value)) (h' : Heap) (tk' : Nat), pFold bs = .st many kvs → kvs.length ≤ 300 → ManyV v many → o.IsDictOf (PySem.intKind PySem.Challenge.rw_ok0139_01.row.prog w) kw → KvAre kw kvs →
      s.heap.get? r = none → s.heap.get? d = none → (d == sysModules) = false → @LT.lt Nat _ d r → Kp [] s.heap h' → h'.get? r = some { cls := .type "tuple", data := .seq #[.ref d, v] } → h'.get? d = some o → Q (.ref r) { s with heap := h', toks := tk' })
    (hraz : ∀ (e : Addr) (h' : Heap) (tk' : Nat), pFold bs = .bad → Raz base s.heap l [] e h' → E (.ref e) { s with heap := h', toks := tk' }) :
    wpAny (model PySem.Challenge.rw_ok0139_01.row.prog w) (Ar dp un gd l) (call (.ref 68) [.ref a]) Q E s := by
  revert X
  k_fill
  intro X
  refine wpAny_call ?_
  have hown : ∀ q ∈ [(a, W.listOf vs.toArray n)], s.heap.get? q.1 = some q.2 ∧ base.get? q.1 = none ∧ q.1 ∉ l.filterMap (·.frame) := by
    intro q hq; cases List.mem_singleton.mp hq; exact ⟨ha, hab, hal⟩
  k_dflt (refine' enter_raw (own := [(a, W.listOf vs.toArray n)]) B X T hown ?k6 ?k7 ?k8 ?k9 ?kB ?_ ?c2 ?c3 ?c4 ?c5)
  case k6 => k_is
  case k7 => k_is
  case k8 => exact room0 hd
  case k9 => exact BindsTo.of_eq rfl
  case c5 => decide
  case kB => exact locs rfl
  case c2 => exact rfl
  case c3 => exact rfl
  case c4 => exact rfl
  intro g' L' h' hkp F' N' B' X' T' l1
  (try k_lt l1)
  clear ha
  (try dsimp only); (try k_fold)
  k_steps
  rename (_ == sysModules) = false => lo
  rename Obj.IsDictOf (intKind _ _) _ [] => hi0
  rename PyProof.V.FlatPairs PyData.int [] [] => fi0
  rename PyProof.V.FlatPairs PyData.str [] [] => fs0
  clear fi0 fs0
  rename Obj.IsDictOf (strKind _ _) _ [] => hs0
  clear hs0
  rename News _ _ _ (_ :: _) => N1
  unfold Hold
  refine lst_loop (x := "payload") (nm := "many") [] (fun i v nx => ∃ many kvs kw o, pFold (bs.take i) = .st many kvs ∧ ManyV v many ∧ o.IsDictOf (PySem.intKind PySem.Challenge.rw_ok0139_01.row.prog w) kw ∧ KvAre kw kvs ∧ nx = [(_, o), (a, W.listOf vs.toArray n)]) rfl (by k_mem) (by assumption) N1 rfl ⟨none, [], [], _, rfl, .inl ⟨rfl, rfl⟩, hi0, .nil, rfl⟩ ?_ ?_ (by decide)
  · clear N1 hi0
    rintro i u v m1 nx hq tkq own hu ho hin ⟨many, kvs, kw, o, hp, hv, hdo, hkv, rfl⟩ F1 N1
    clear hin
    replace F1 : Fr g' L' _ _ := F1
    replace N1 : News g' L' _ _ := N1
    simp only [List.cons_append, List.nil_append] at N1
    obtain ⟨b, tb, rfl, hbi⟩ := hb.at hu
    have hbz' : b.size ≤ 16777216 := Nat.le_trans (hbz b (List.mem_of_getElem? hbi)) (by decide)
    have hkl : kvs.length ≤ 1000 := by
      have h1 : i < bs.length := (List.getElem?_eq_some_iff.mp hbi).1
      have := pFold_len (Nat.le_of_lt h1) hp
      omega
    have sub1 : ∀ {o₂ : Obj} {x : Addr}, ∀ q ∈ [(a, W.listOf vs.toArray n)], q ∈ (x, o₂) :: (a, W.listOf vs.toArray n) :: own := fun q hq => by
      cases List.mem_singleton.mp hq; exact .tail _ (.head _)
    rcases hv with ⟨rfl, rfl⟩ | ⟨mm, tm, rfl, rfl⟩
    all_goals (try dsimp only)
    all_goals (try k_fold)
    all_goals k_steps
    all_goals first
      | exact hraz _ _ _ (take_bad hbi hp (pStep_short (beq_iff_eq.mp (by assumption)) (by omega))) (Raz.raw hkp (fun q hq => (hown q hq).1) sub1 (by assumption))
      | exact hraz _ _ _ (take_bad hbi hp (pStep_unfit (beq_iff_eq.mp (by assumption)) (.inr (by assumption)))) (Raz.raw hkp (fun q hq => (hown q hq).1) sub1 (by assumption))
      | exact hraz _ _ _ (take_bad hbi hp (pStep_unfit (beq_iff_eq.mp (by assumption)) (.inl ⟨_, rfl, by assumption⟩))) (Raz.raw hkp (fun q hq => (hown q hq).1) sub1 (by assumption))
      | (refine InvEndG.intro (by assumption) (by assumption) ⟨?_, ⟨_, rfl, _, _, _, _, take_to hbi hp (pStep_skip (beq_eq_false_iff_ne.mp (by assumption))), ?_, hdo, hkv, rfl⟩, ?_⟩ ho ?_ ?_
         · exact .tail _ (.head _)
         · first | exact .inl ⟨rfl, rfl⟩ | exact .inr ⟨_, _, rfl, rfl⟩
         · intro z h1 h2 _; simp [h1, h2]
         · intro q hq; simp only [List.mem_cons, List.not_mem_nil, or_false] at hq ⊢; rcases hq with h | h <;> simp [h]
         · intro q hq; exact .tail _ (.tail _ hq))
      | (refine InvEndG.intro (by assumption) (by assumption) ⟨?_, ⟨_, rfl, _, _, _, _, take_to hbi hp (pStep_put (beq_iff_eq.mp (by assumption)) (by omega) (by assumption) (by assumption) ?_ (by assumption)), .inr ⟨_, _, rfl, rfl⟩, by assumption, by assumption, rfl⟩, ?_⟩ ?_ ?_ ?_
         · exact .tail _ (.head _)
         · first | (rintro ⟨_, h, _⟩; cases h; done) | (rintro ⟨_, h, h2⟩; cases h; exact h2 (by assumption)) | (rintro ⟨_, h, h2⟩; cases h; omega)
         · intro z h1 h2 _; simp [h1, h2]
         · exact ho
         · intro q hq; simp only [List.mem_cons, List.not_mem_nil, or_false] at hq ⊢; rcases hq with h | h <;> simp [h]
         · intro q hq; exact .tail _ (.tail _ hq))
  · clear N1 hi0
    rintro v m3 nx hq3 tkq3 ⟨many, kvs, kw, o, hp, hv, hdo, hkv, rfl⟩ F3 N3
    replace F3 : Fr g' L' _ _ := F3
    replace N3 : News g' L' _ _ := N3
    rw [hb.length, List.take_length] at hp
    have hkl : kvs.length ≤ 300 := by
      have := pFold_len (bs := bs) (i := bs.length) (Nat.le_refl _) (by rw [List.take_length]; exact hp)
      omega
    (try dsimp only); (try k_fold)
    k_steps
    all_goals (refine hret _ _ _ _ _ _ _ _ _ hp hkl hv hdo hkv ?_ ?_ lo (by omega) (Kp.of hkp (fun q hq => (hown q hq).1) (by assumption) (by assumption) ?_) (News.get (by assumption) (List.Mem.head _)) (News.get (by assumption) (by k_mem)))
    · exact fresh_raw hkp (by assumption) (List.Mem.head _) (mem_one (by (show @Ne Nat _ _); omega))
    · exact fresh_raw hkp (by assumption) (by k_mem) (mem_one (by (show @Ne Nat _ _); omega))
    · kcj_all
end
theorem ManyV.elim {v : Value} {many : Option Int} {P : Prop} (h : ManyV v many) (h1 : many = none → v = .none → P) (h2 : ∀ m t, many = some m → v = .int m t → P) : P := by
  rcases h with ⟨a, b⟩ | ⟨m, t, a, b⟩
  · exact h1 a b
  · exact h2 m t a b
theorem parts_line {w : World} {p : Program} {loose : List Str} {mean : ExcName → Option Value} {mg mb : Str → Option Value}
    {dp un : Nat} {gd : Option (List Code)} {outer : List Env} {env : Env} {base h₀ : Heap} {L : Addr} {m : Str → Option Value} {news : List (Addr × Obj)} {s : Shared} {Q E : Value → Shared → Prop} {a : Addr} {vs : List Value} {bs : List (Array UInt8)} {n : Nat}
    (B : Below (Ar dp un gd outer) base outer h₀) (F : Fr h₀ L s.heap m) (N : News h₀ L s.heap news) (X : (Mine.pre.heap_1 w.params).In base) (T : Top p loose mean mg mb base) (hf : env.frame = some L) (hke : env.scope.kind = .function)
    (ma : (a, W.listOf vs.toArray n) ∈ news) (hb : BytesAre vs bs) (hbz : ∀ b ∈ bs, b.size ≤ 1000) (hbl : bs.length ≤ 300) (hd : dp + 21 < recursionLimit) (hu : un + 103 < cLine)
    (hret : ∀ (r d : Addr) (o : Obj) (v : Value) (many : Option Int) (kvs : List (Int × Array UInt8)) (kw : List (Int × Value)) (h' : Heap) (tk' : Nat), pFold bs = .st many kvs → kvs.length ≤ 300 → ManyV v many → o.IsDictOf (PySem.intKind PySem.Challenge.rw_ok0139_01.row.prog w) kw → KvAre kw kvs →
      (d == sysModules) = false → @LT.lt Nat _ d r → (∀ q ∈ news, @Ne Nat q.1 r) → (∀ q ∈ news, @Ne Nat q.1 d) → Fr h₀ L h' m → News h₀ L h' ((r, { cls := .type "tuple", data := .seq #[.ref d, v] }) :: (d, o) :: news) → Q (.ref r) { s with heap := h', toks := tk' })
    (hraz : ∀ (e : Addr) (h' : Heap) (tk' : Nat), pFold bs = .bad → Raz base s.heap (env :: outer) [] e h' → E (.ref e) { s with heap := h', toks := tk' }) :
    wpAny (model PySem.Challenge.rw_ok0139_01.row.prog w) ((Ar dp un gd outer).deeper env) (call (.ref 68) [.ref a]) Q E s := by
  refine parts_raw (dp := dp + 1) (un := un + 3) (l := env :: outer) (gd := gd) (below_here B F hf hke) X T (N _ ma).1 (none_base B (N _ ma).2.2) (not_frame B N hf ma) hb hbz hbl (room2 hd rfl) (room2 hu rfl) ?_ hraz
  intro r d o v many kvs kw h' tk' hp hl hv hdo hkv hr hdn lo dlr kp gr gd'
  refine hret r d o v many kvs kw h' tk' hp hl hv hdo hkv lo dlr (fun q hq z => ?_) (fun q hq z => ?_) (F.keeps fun b o e => kp b o e (fun z => nomatch z)) (news_two F N kp hr hdn gr gd')
  · rw [← z, (N q hq).1] at hr; cases hr
  · rw [← z, (N q hq).1] at hdn; cases hdn

theorem lay_76 : True := by
  k_with "call ref" => (k_here; (with_reducible show wpAny _ _ (call (Value.ref 68) _) _ _ _); k_dflt (refine' parts_line ?B₉ ?F₉ ?N₉ ?X₉ ?T₉ ?hf₉ ?hke₉ ?ma₉ ?hb₉ ?hbz₉ ?hbl₉ ?hd₉ ?hu₉ ?_ ?_; walk_at "zA"; (case ma₉ => k_mem); (case hb₉ => assumption); (case hbz₉ => assumption); (case hbl₉ => assumption); walk_at "zD"); all_goals first | (intro r'₉ d'₉ o'₉ v'₉ many'₉ kvs'₉ kw'₉ h'₉ tk'₉ hp'₉ hl'₉ hv'₉ hdo'₉ hkv'₉ lo'₉ dlr'₉ ne'₉ nd'₉ F'₉ N'₉; (k_lt ne'₉); (k_lt nd'₉); refine ManyV.elim hv'₉ (fun e1'₉ e2'₉ => ?_) (fun m'₉ t'₉ e1'₉ e2'₉ => ?_); all_goals (subst e2'₉; (try k_sweep))) | (intro e'₉ h'₉ tk'₉ hp'₉ R'₉))
  k_with "call builtin:len" => (k_here; (with_reducible show wpAny _ _ (call (Value.builtin "len") [Value.ref _]) _ _ _); k_dflt (refine' dict_len ?N₉ ?m₉ ?d₉ ?kv₉ ?lo₉ ?z₉ ?_; (case N₉ => k_asm); (case m₉ => k_mem); (case d₉ => assumption); (case kv₉ => assumption); (case lo₉ => assumption); (case z₉ => omega)); intro t'₉ k'₉)
  trivial

theorem pStep_small {p : Ps} {b : Array UInt8} {Z : Nat} (h : ∀ m c, p = .st m c → ∀ q ∈ c, q.2.size ≤ Z) (hb : b.size ≤ Z) : ∀ m c, pStep p b = .st m c → ∀ q ∈ c, q.2.size ≤ Z := by
  intro m c e
  cases p with
  | bad => cases e
  | st many kvs =>
    have h0 := h many kvs rfl
    rw [pStep_st] at e; unfold pPut at e
    split at e
    · cases e; exact h0
    · split at e
      · cases e
      · split at e
        · cases e
        · cases e
          intro q hq
          rcases List.mem_append.mp hq with hq | hq
          · exact h0 q hq
          · cases List.mem_singleton.mp hq
            exact Nat.le_trans (KBc.size_picked_le _ _ _) hb
theorem fold_small : ∀ (bs : List (Array UInt8)) (p : Ps) (Z : Nat), (∀ b ∈ bs, b.size ≤ Z) → (∀ m c, p = .st m c → ∀ q ∈ c, q.2.size ≤ Z) → ∀ m c, bs.foldl pStep p = .st m c → ∀ q ∈ c, q.2.size ≤ Z
  | [], _, _, _, h => h
  | b :: bs, p, Z, hb, h => fold_small bs _ Z (fun q hq => hb q (.tail _ hq)) (pStep_small h (hb b (.head _)))
theorem pFold_small {bs : List (Array UInt8)} {Z : Nat} {many : Option Int} {kvs : List (Int × Array UInt8)} (hb : ∀ b ∈ bs, b.size ≤ Z) (e : pFold bs = .st many kvs) : ∀ q ∈ kvs, q.2.size ≤ Z :=
  fold_small bs _ Z hb (fun m c e => by cases e; exact fun q hq => nomatch hq) many kvs e
theorem lookK_small {kvs : List (Int × Array UInt8)} {Z : Nat} (h : ∀ q ∈ kvs, q.2.size ≤ Z) (k : Int) : (lookK kvs k).size ≤ Z := by
  unfold lookK
  cases e : kvs.find? (fun p => p.1 = k) with
  | none => simp
  | some p => simpa using h p (List.mem_of_find?_eq_some e)
theorem jflat_small {Z : Nat} (f : Int → Array UInt8) (hf : ∀ k, (f k).size ≤ Z) : ∀ ks : List Int, (jflat (ks.map f)).size ≤ ks.length * Z
  | [] => by simp [jflat]
  | k :: ks => by
    have := jflat_small f hf ks
    rw [jflat_size] at this ⊢
    have h1 := hf k
    simp only [List.map_cons, List.sum_cons, List.length_cons, Nat.add_mul, Nat.one_mul]
    omega
theorem full_keys {bs : List (Array UInt8)} {m : Int} {kvs : List (Int × Array UInt8)} (hp : pFold bs = .st (some m) kvs) (hl : (kvs.length : Int) = m) : 0 ≤ m ∧ m < 256 ∧ ∀ k ∈ rangeKs 1 m.toNat, k ∈ kvs.map (·.1) := by
  have hok := pFold_ok bs
  rw [hp] at hok
  obtain ⟨h1, h2, h3⟩ := hok
  refine ⟨by omega, h1, fun k hk => ?_⟩
  have hk' := mem_rangeKs hk
  refine full_mem m.toNat (kvs.map (·.1)) h2 (fun q hq => ?_) (by rw [List.length_map]; omega) k hk'.1 (by omega)
  obtain ⟨p, hpm, rfl⟩ := List.mem_map.mp hq
  have := h3 p hpm
  omega
theorem joined_small {bs : List (Array UInt8)} {m : Int} {kvs : List (Int × Array UInt8)} (hb : ∀ b ∈ bs, b.size ≤ 1000) (hp : pFold bs = .st (some m) kvs) (hm : m < 256) : (jflat ((rangeKs 1 m.toNat).map (lookK kvs))).size ≤ 16777216 := by
  have h1 := jflat_small (lookK kvs) (lookK_small (pFold_small hb hp)) (rangeKs 1 m.toNat)
  rw [rangeKs_length] at h1
  have h2 : m.toNat ≤ 256 := by omega
  have h3 : m.toNat * 1000 ≤ 256 * 1000 := Nat.mul_le_mul_right _ h2
  omega
section
open PyProof.Rows.LCg
variable {prog : Program} {w : World} {A : Around} {h₀ : Heap} {L : Addr} {m : Str → Option Value} {env : Env} {elt : Expr} {x : Str} {scope : Scope} {cl : List (Str × Addr)} {s : Shared} {S : List (Addr × Obj) → Prop} {P : Nat → Value → Prop} {Fin : List Value → List (Addr × Obj) → Prop} {news : List (Addr × Obj)}
/-- the end of an element that made octets and changed nothing -/
def ElB (h₀ : Heap) (L : Addr) (m : Str → Option Value) (news : List (Addr × Obj)) (s : Shared) (b : Array UInt8) (y : Value) (s₂ : Shared) : Prop :=
  ∃ t h' tk', y = .bytes b t ∧ s₂ = { s with heap := h', toks := tk' } ∧ Fr h₀ L h' m ∧ News h₀ L h' news
theorem ElB.intro {h' : Heap} {tk' : Nat} {b : Array UInt8} {t : Tok} (F : Fr h₀ L h' m) (N : News h₀ L h' news) : ElB h₀ L m news s b (.bytes b t) { s with heap := h', toks := tk' } := ⟨t, h', tk', rfl, rfl, F, N⟩
theorem comp_rest {n : Nat} {ks : List Int} (g : Int → Array UInt8) (hks : ks.length = n) (hP : ∀ i v, i < n → P i v → ∃ k t, ks[i]? = some k ∧ v = .int k t) (hS : S news)
    (turn : ∀ k t I oI C oC D m₂ ys h tk (E' : Value → Shared → Prop), k ∈ ks → NsObj oC m₂ → m₂ x = some (.int k t) → Fr h₀ L h m → News h₀ L h ((I, oI) :: (C, oC) :: (D, lst ys) :: news) → Off3 I C D news → ((@Ne Nat I C) ∧ (@Ne Nat I D) ∧ (@Ne Nat C D)) →
      wpAny (model prog w) A (eval elt (compEnvC scope cl C env)) (ElB h₀ L m ((I, oI) :: (C, oC) :: (D, lst ys) :: news) { s with heap := h, toks := tk } (g k)) E' { s with heap := h, toks := tk })
    (fin : ∀ ys, BytesAre ys (ks.map g) → Fin ys news) : CompRest prog w A h₀ L m env elt x scope cl s S P Fin n 0 [] news := by
  have key : ∀ (j i : Nat) (ys : List Value), i + j = n → BytesAre ys ((ks.take i).map g) → CompRest prog w A h₀ L m env elt x scope cl s S P Fin j i ys news := by
    intro j
    induction j with
    | zero =>
      intro i ys hi hy
      have e : i = ks.length := by omega
      subst e
      rw [List.take_length] at hy
      exact CompRest.zero (fin ys hy)
    | succ j ih =>
      intro i ys hi hy
      refine CompRest.succ ?_
      intro v I oI C oC D m₂ h tk E' hv hC hx F N off ne
      obtain ⟨k, t, hk, hv'⟩ := hP i v (by omega) hv
      rw [hv'] at hx
      refine wpAny_mono (turn k t I oI C oC D m₂ ys h tk E' (List.mem_of_getElem? hk) hC hx F N off ne) (fun y s₂ hq => ?_) fun _ _ e => e
      obtain ⟨t', h', tk', hy', e, F', N'⟩ := hq
      refine ⟨h', tk', news, e, F', N', off, hS, ?_⟩
      rw [hy']
      refine ih (i + 1) _ (by omega) ?_
      rw [List.take_add_one, hk]
      simpa using hy.append (.cons (g k) t' .nil)
  exact key n 0 [] (by omega) (by simp only [List.take_zero, List.map_nil]; exact .nil)
theorem comp_range {n : Nat} {a : Int} (g : Int → Array UInt8) (hS : S news)
    (turn : ∀ k t I oI C oC D m₂ ys h tk (E' : Value → Shared → Prop), k ∈ rangeKs a n → NsObj oC m₂ → m₂ x = some (.int k t) → Fr h₀ L h m → News h₀ L h ((I, oI) :: (C, oC) :: (D, lst ys) :: news) → Off3 I C D news → ((@Ne Nat I C) ∧ (@Ne Nat I D) ∧ (@Ne Nat C D)) →
      wpAny (model prog w) A (eval elt (compEnvC scope cl C env)) (ElB h₀ L m ((I, oI) :: (C, oC) :: (D, lst ys) :: news) { s with heap := h, toks := tk } (g k)) E' { s with heap := h, toks := tk })
    (fin : ∀ ys, BytesAre ys ((rangeKs a n).map g) → Fin ys news) : CompRest prog w A h₀ L m env elt x scope cl s S (fun i v => ∃ t, v = .int (a + (i : Int)) t) Fin n 0 [] news :=
  comp_rest (ks := rangeKs a n) g (rangeKs_length a n) (fun i v hi hv => by
    obtain ⟨t, e⟩ := hv
    exact ⟨a + (i : Int), t, by simp [rangeKs, hi], e⟩) hS turn fin
theorem comp_list {vs : List Value} {ns : List Int} (g : Int → Array UInt8) (hi : IntsAre vs ns) (hS : S news)
    (turn : ∀ k t I oI C oC D m₂ ys h tk (E' : Value → Shared → Prop), k ∈ ns → NsObj oC m₂ → m₂ x = some (.int k t) → Fr h₀ L h m → News h₀ L h ((I, oI) :: (C, oC) :: (D, lst ys) :: news) → Off3 I C D news → ((@Ne Nat I C) ∧ (@Ne Nat I D) ∧ (@Ne Nat C D)) →
      wpAny (model prog w) A (eval elt (compEnvC scope cl C env)) (ElB h₀ L m ((I, oI) :: (C, oC) :: (D, lst ys) :: news) { s with heap := h, toks := tk } (g k)) E' { s with heap := h, toks := tk })
    (fin : ∀ ys, BytesAre ys (ns.map g) → Fin ys news) : CompRest prog w A h₀ L m env elt x scope cl s S (fun i v => vs.toArray[i]? = some v) Fin vs.toArray.size 0 [] news :=
  comp_rest (ks := ns) g (by rw [List.size_toArray]; exact hi.length.symm) (fun i v _ hv => by
    obtain ⟨k, t, e, hk⟩ := IntsAre.at hi i v (by simpa using hv)
    exact ⟨k, t, hk, e⟩) hS turn fin
theorem jb_type : typeOf (.builtin "bytes.join") = pure (.type "method_descriptor") := by show builtinType _ = _; rw [PySem.builtinType_eq_fast]; kernel_rfl
theorem jb_method {M : Model} {b : Array UInt8} {t : Tok} {pl : Sem Bool} {E : Value → Shared → Prop} {Q : Value × List Value → Shared → Prop} (h : Q (.builtin "bytes.join", [.bytes b t]) s) : wpAny M A (getMethod (.bytes b t) "join" pl) Q E s :=
  KBd.method_of (.bytes b t) (PySem.W.typeIs_bytes _ _ _) jb_slot jb_type KBd.noRef h
end
theorem leave_segX {M : Model} {A : Around} {E : Value → Shared → Prop} {s' : Shared} {base g : Heap} {outer : List Env} {L a e : Addr} {m : Str → Option Value} {name : Str} {scope : Scope} {cd : Value} {cl : List (Str × Addr)} {Q : Unit → Shared → Prop} {news : List (Addr × Obj)} {dd : Option Addr} {t : Addr} {sl : Array (Option Value)}
    (K : Below A base outer g) (F : Fr g L s'.heap m) (N : News g L s'.heap ((e, ({ cls := .ref 44, dict := dd, data := .fields #[.ref t, .none, .none, .none, .bool false, .none], slots := sl } : Obj)) :: news)) (l1 : ∀ q ∈ news, q.1 < e)
    (hQ : ∀ h', Raz base g outer news e h' → Q () { s' with heap := h' }) (hk : scope.kind = .function := by rfl) :
    wpAny M (A.deeper (envX name scope L a cd cl)) (leaving (envX name scope L a cd cl) (.ref e)) Q E s' := by
  have K' := below_here (env := envX name scope L a cd cl) K F rfl hk
  have mem : (e, ({ cls := .ref 44, dict := dd, data := .fields #[.ref t, .none, .none, .none, .bool false, .none], slots := sl } : Obj)) ∈ ((e, ({ cls := .ref 44, dict := dd, data := .fields #[.ref t, .none, .none, .none, .bool false, .none], slots := sl } : Obj)) :: news) := .head _
  have hne : e ∉ (envX name scope L a cd cl :: outer).filterMap (·.frame) := not_frame K N rfl mem
  have hin : ∀ env ∈ (envX name scope L a cd cl :: outer), ∀ b, env.frame = some b → b ∈ e :: (envX name scope L a cd cl :: outer).filterMap (·.frame) := fun env he b hb => List.mem_cons_of_mem _ (List.mem_filterMap.mpr ⟨env, he, hb⟩)
  have sg : ∀ b o, g.get? b = some o → b ∉ outer.filterMap (·.frame) → (hideAll s'.heap (e :: (envX name scope L a cd cl :: outer).filterMap (·.frame))).get? b = some o := fun b o q nm => hideAll_get _ (F.keep b o q) fun hm => by
    rcases List.mem_cons.mp hm with z | hm
    · rw [z, (N _ mem).2.2] at q; cases q
    · obtain ⟨e', he, hf'⟩ := List.mem_filterMap.mp hm
      rcases List.mem_cons.mp he with z | he
      · subst z
        rw [← (Option.some.inj hf' : L = b), kts_self F] at q; cases q
      · exact nm (List.mem_filterMap.mpr ⟨e', he, hf'⟩)
  have st : base.StaysIn (hideAll s'.heap (e :: (envX name scope L a cd cl :: outer).filterMap (·.frame))) := fun b o q => sg b o (K.stays b o q) fun hm => by
    rw [(K.frames.mem hm).1] at q; cases q
  have hl : ∀ q ∈ news, (hideAll s'.heap (e :: (envX name scope L a cd cl :: outer).filterMap (·.frame))).get? q.1 = some q.2 ∧ g.get? q.1 = none ∧ base.get? q.1 = none := fun q hq => by
    refine ⟨hideAll_get _ (N q (.tail _ hq)).1 fun hm => ?_, (N q (.tail _ hq)).2.2, fresh_of_stays K.stays (N q (.tail _ hq)).2.2⟩
    rcases List.mem_cons.mp hm with z | hm
    · exact absurd z (Nat.ne_of_lt (l1 q hq))
    · exact not_frame (o := q.2) K N rfl (.tail _ hq) hm
  have hen : (hideAll s'.heap (e :: (envX name scope L a cd cl :: outer).filterMap (·.frame))).get? e = none := hideAll_none _ (.head _)
  refine wpAny_leaving_firstW (a0 := .ref t) K'.stack (funFrames_hide K'.frames hin) rfl (N _ mem).1 (fun b o hb => of_hideAll _ hb) hen rfl rfl rfl fun h' hL => ?_
  obtain ⟨k1, ⟨_, _, k2⟩, k3, k4⟩ := hL
  exact hQ h' ⟨⟨_, _, st, sg, hl, k1, hen, k2, k3⟩, (Heap.UpToSlots.of_keeps F.keep).trans k4⟩

theorem lay_76c : True := by
  k_with "leaving ref" => (k_here; (with_reducible show wpAny _ _ (leaving (envOfC _ _ _ _ _) _) _ _ _); k_dflt (refine' leave_segX ?K₉ ?F₉ ?N₉ ?l₉ ?_; (case K₉ => k_asm); (case F₉ => k_asm); (case N₉ => k_asm); (case l₉ => assumption); k_whole); intro h'₉ R'₉; (try dsimp only at R'₉ ⊢))
  k_with "getMethod bytes" => (k_here; (with_reducible refine jb_method ?_))
  k_with "CompSrc" => (k_here; refine Hold.of ?_)
  k_with "subscriptTail" => (k_here; (with_reducible show wpAny _ _ (subscriptTail _ _ (Value.ref _) (Value.int _ _)) _ _ _); k_dflt (refine' dict_at ?N₉ ?m₉ ?d₉ ?kv₉ ?hk₉ ?_; (case N₉ => k_asm); (case m₉ => k_mem); (case d₉ => assumption); (case kv₉ => assumption); (case hk₉ => assumption)); intro t'₉)
  k_with "call builtin:bytes.join" => (k_here; (with_reducible show wpAny _ _ (call (Value.builtin "bytes.join") [Value.bytes _ _, Value.ref _]) _ _ _); k_dflt (refine' jb_join ?l₉ ?b₉ ?z₉ ?_; (case b₉ => assumption); (case l₉ => exact News.get (by k_asm) (List.Mem.head _)); (case z₉ => assumption)); intro t'₉ k'₉)
  trivial

section
theorem joined_raw {w : World} {p : Program} {loose : List Str} {mean : ExcName → Option Value} {mg mb : Str → Option Value}
    {dp un : Nat} {gd : Option (List Code)} {l : List Env} {base : Heap} {s : Shared} {Q E : Value → Shared → Prop} {a : Addr} {vs : List Value} {bs : List (Array UInt8)} {n : Nat}
    (B : Below (Ar dp un gd l) base l s.heap) (X : (Mine.pre.heap_1 w.params).In base) (T : Top p loose mean mg mb base)
    (ha : s.heap.get? a = some (W.listOf vs.toArray n)) (hab : base.get? a = none) (hal : a ∉ l.filterMap (·.frame)) (hb : BytesAre vs bs) (hbz : ∀ b ∈ bs, b.size ≤ 1000) (hbl : bs.length ≤ 300)
    (hd : dp + 40 < recursionLimit) (hu : un + 200 < cLine)
    (hnone : ∀ (h' : Heap) (tk' : Nat), joinRd bs = .none → Kp [] s.heap h' → Q .none { s with heap := h', toks := tk' })
    (hret : ∀ (b : Array UInt8) (t : Tok) (h' : Heap) (tk' : Nat), joinRd bs = .ok b → Kp [] s.heap h' → Q (.bytes b t) { s with heap := h', toks := tk' })
    (hraz : ∀ (e : Addr) (h' : Heap) (tk' : Nat), joinRd bs = .bad → Raz base s.heap l [] e h' → E (.ref e) { s with heap := h', toks := tk' }) :
    wpAny (model PySem.Challenge.rw_ok0139_01.row.prog w) (Ar dp un gd l) (call (.ref 73) [.ref a]) Q E s := by
  revert X
  k_fill
  intro X
  refine wpAny_call ?_
  have hown : ∀ q ∈ [(a, W.listOf vs.toArray n)], s.heap.get? q.1 = some q.2 ∧ base.get? q.1 = none ∧ q.1 ∉ l.filterMap (·.frame) := by
    intro q hq; cases List.mem_singleton.mp hq; exact ⟨ha, hab, hal⟩
  k_dflt (refine' enter_rawC (own := [(a, W.listOf vs.toArray n)]) B X T hown ?k6 ?k7 ?k8 ?k9 ?kB ?kD ?_ ?c2 ?c3 ?c4)
  case k6 => k_is
  case k7 => k_is
  case k8 => exact room0 hd
  case k9 => exact BindsTo.of_eq rfl
  case kB => exact rfl
  case kD => decide +kernel
  case c2 => exact rfl
  case c3 => exact rfl
  case c4 => exact rfl
  intro g' L' h' tk' cells' hkp F' N' Y' B' X' T' l1
  (try k_lt l1); k_cells Y'; (try simp only [List.cons_append, List.nil_append] at N')
  clear ha
  (try dsimp only); (try k_fold)
  k_steps
  all_goals (try dsimp only)
  · exact hnone _ _ (joinRd_none (by rename (_ : Option Int) = none => e; rename pFold _ = _ => hp; rw [hp, e])) (Kp.of hkp (fun q hq => (hown q hq).1) (by assumption) (by assumption) (by kcj_all))
  · k_dflt (refine' hraz _ _ _ ?j (Raz.raw hkp (fun q hq => (hown q hq).1) ?b ?r); (case r => assumption); (case b => kcj_all); (case j => exact joinRd_lack (by rename (_ : Option Int) = some _ => e; rename pFold _ = _ => hp; rw [hp, e]) (by assumption)))
  · rename IsRange _ _ _ _ _ _ _ _ => R1
    rename (_ : Option Int) = some _ => e1
    rename pFold _ = _ => hp
    rename List (Int × Array UInt8) => kvs0
    rename (_ : Int) = _ => hlm
    rw [e1] at hp
    obtain ⟨m0, m1, hfull⟩ := full_keys hp hlm
    have hjz := joined_small hbz hp m1
    have hjr := joinRd_ok hp hlm
    unfold Hold
    refine LCg.CompSrc.range rfl (by assumption) (by assumption) R1 (small_range (by decide) (by decide) (by omega) (by omega)) (rangeSize_nat _ _) (by rw [PySem.sizeLine_eq]; omega) ?_
    intro g₁
    have em : ∀ z : Int, (z + 1 - 1).toNat = z.toNat := fun z => by omega
    refine comp_range (lookK kvs0) trivial ?_ ?_
    · intro k t I oI C oC D m₂ ys h tk E' hk hC hx F N off ne
      rw [em] at hk
      have hkk := hfull k hk
      k_steps
      all_goals exact ElB.intro (by assumption) (by assumption)
    · intro ys hys
      rw [em] at hys
      intro D h tk F N off
      (try dsimp only)
      k_steps
      all_goals (try dsimp only)
      all_goals exact hret _ _ _ _ hjr (Kp.of hkp (fun q hq => (hown q hq).1) (by assumption) (by assumption) (by kcj_all))
  · k_dflt (refine' hraz _ _ _ ?j (Raz.raw hkp (fun q hq => (hown q hq).1) ?b ?r); (case r => assumption); (case b => kcj_all); (case j => exact joinRd_bad (by assumption)))
end
theorem ints_of : ∀ (vs : List Value) (ns : List Int), vs.length = ns.length → (∀ (j : Nat) (v : Value), vs[j]? = some v → ∃ (k : Int) (t : Tok), ns[j]? = some k ∧ v = Value.int k t) → IntsAre vs ns
  | [], [], _, _ => .nil
  | [], _ :: _, h, _ => by simp at h
  | _ :: _, [], h, _ => by simp at h
  | v :: vs, n :: ns, hl, h => by
    obtain ⟨k, t, e, rfl⟩ := h 0 v rfl
    simp at e
    subst e
    exact .cons n t (ints_of vs ns (by simpa using hl) fun j u hu => h (j + 1) u (by simpa using hu))
section
variable {prog : Program} {w : World} {A : Around} {E : Value → Shared → Prop} {s : Shared} {h₀ : Heap} {L d : Addr} {m : Str → Option Value} {news : List (Addr × Obj)} {o : Obj} {kw : List (Int × Value)} {kvs : List (Int × Array UInt8)}
theorem sorted_dict {Q : Value → Shared → Prop} (hh : A.handled = none) (F : Fr h₀ L s.heap m) (N : News h₀ L s.heap news) (hp : (d, o) ∈ news) (hd : o.IsDictOf (PySem.intKind prog w) kw) (kv : KvAre kw kvs) (lo : (d == sysModules) = false) (hz : kvs.length < 60)
    (h : ∀ (D : Addr) (vs' : List Value) (ns' : List Int) (c : Nat) (h' : Heap) (tk : Nat), Fr h₀ L h' m → News h₀ L h' ((D, W.listOf vs'.toArray c) :: news) → (∀ q ∈ news, q.1 < D) → IntsAre vs' ns' → ns'.Perm (kvs.map (·.1)) → ns'.Pairwise (fun x y => x ≤ y) → Q (.ref D) { s with heap := h', toks := tk }) :
    wpAny (model prog w) A (call (.builtin "sorted") [.ref d]) Q E s := by
  obtain ⟨ep, hat⟩ := (kda_dict N hp hd).dictAt
  have hl1 := kv.length
  refine kdu_sorted (kdl_dict (knd := PySem.intKind prog w) (kvs := kw) (ep := ep) lo) hh F N hat (by rw [PySem.sizeLine_eq]; omega) fun D h' tk vs F' N' l1 hl hv => ?_
  have hi : IntsAre vs (kvs.map (·.1)) := ints_of _ _ (by rw [hl, hl1, List.length_map]) fun j v e => by
    obtain ⟨k, x, hx, hk⟩ := hv j v e
    obtain ⟨t, rfl⟩ := Value.isInt_shape hk
    refine ⟨k, t, ?_, rfl⟩
    rw [← kv.keys, List.getElem?_map, hx]
    rfl
  have hne : ∀ p ∈ news, p.1 ≠ D := fun p hp => Nat.ne_of_lt (l1 p hp)
  exact ksk_lsort (s := { s with heap := h', toks := tk }) F' N' (fun o => Upd.head hne) (ksk_tl vs) hi (by rw [List.length_map]; omega) fun vs' ns' c h'' F2 N2 i2 _ p2 o2 _ => h D vs' ns' c h'' tk F2 N2 l1 i2 p2 o2
end
theorem rangeKs_sorted (a : Int) (n : Nat) : (rangeKs a n).Pairwise (· ≤ ·) := by
  unfold rangeKs
  rw [List.pairwise_map]
  exact List.pairwise_lt_range.imp fun h => by omega
theorem rangeKs_nodup (a : Int) (n : Nat) : (rangeKs a n).Nodup := by
  unfold rangeKs List.Nodup
  rw [List.pairwise_map]
  exact List.pairwise_lt_range.imp fun h => by omega
theorem keys_sorted {bs : List (Array UInt8)} {m : Int} {kvs : List (Int × Array UInt8)} {ns : List Int} (hp : pFold bs = .st (some m) kvs) (hl : (kvs.length : Int) = m) (p : ns.Perm (kvs.map (·.1))) (o : ns.Pairwise (fun x y => x ≤ y)) : ns = rangeKs 1 m.toNat := by
  have hok := pFold_ok bs
  rw [hp] at hok
  obtain ⟨h1, h2, h3⟩ := hok
  have hf := (full_keys hp hl).2.2
  refine ksm_same (p.trans ?_) o (rangeKs_sorted _ _)
  rw [List.perm_ext_iff_of_nodup h2 (rangeKs_nodup _ _)]
  intro k
  refine ⟨fun hk => ?_, fun hk => hf k hk⟩
  obtain ⟨q, hq, rfl⟩ := List.mem_map.mp hk
  have := h3 q hq
  unfold rangeKs
  rw [List.mem_map]
  exact ⟨(q.1 - 1).toNat, List.mem_range.mpr (by omega), by omega⟩

theorem lay_79 : True := by
  k_with "call builtin:sorted" => (k_here; (with_reducible show wpAny _ _ (call (Value.builtin "sorted") [Value.ref _]) _ _ _); k_dflt (refine' sorted_dict ?hh₉ ?F₉ ?N₉ ?m₉ ?d₉ ?kv₉ ?lo₉ ?z₉ ?_; (case hh₉ => exact rfl); (case F₉ => k_asm); (case N₉ => k_asm); (case m₉ => k_mem); (case d₉ => assumption); (case kv₉ => assumption); (case lo₉ => assumption); (case z₉ => omega)); intro D'₉ vs'₉ ns'₉ c'₉ h'₉ tk'₉ F'₉ N'₉ l1 hi'₉ hp'₉ ho'₉; (try k_lt l1); (try k_sweep))
  trivial

theorem news_tail {h₀ h : Heap} {L : Addr} {p : Addr × Obj} {news : List (Addr × Obj)} (N : News h₀ L h (p :: news)) : News h₀ L h news := fun q hq => N q (.tail _ hq)
section
theorem lay_80_0 : True := by
  k_with "pyIter ref" => (k_here; (with_reducible show wpAny _ (Around.deeper _ (envOfC (Str.ofString "_law_parts_due") _ _ _ _)) _ _ _ _); refine Hold.of ?_)
  trivial
theorem partsdue_raw {w : World} {p : Program} {loose : List Str} {mean : ExcName → Option Value} {mg mb : Str → Option Value}
    {dp un : Nat} {gd : Option (List Code)} {l : List Env} {base : Heap} {s : Shared} {Q E : Value → Shared → Prop} {a : Addr} {vs : List Value} {bs : List (Array UInt8)} {n : Nat}
    (B : Below (Ar dp un gd l) base l s.heap) (X : (Mine.pre.heap_1 w.params).In base) (T : Top p loose mean mg mb base)
    (ha : s.heap.get? a = some (W.listOf vs.toArray n)) (hab : base.get? a = none) (hal : a ∉ l.filterMap (·.frame)) (hb : BytesAre vs bs) (hbz : ∀ b ∈ bs, b.size ≤ 1000) (hbl : bs.length ≤ 50)
    (hd : dp + 20 < recursionLimit) (hu : un + 100 < cLine)
    (hnone : ∀ (h' : Heap) (tk' : Nat), joinRd bs = .none → Kp [] s.heap h' → Q .none { s with heap := h', toks := tk' })
    (hret : ∀ (b : Array UInt8) (t : Tok) (h' : Heap) (tk' : Nat), joinRd bs = .ok b → Kp [] s.heap h' → Q (.bytes b t) { s with heap := h', toks := tk' })
    (hbad : ∀ (t : Tok) (h' : Heap) (tk' : Nat), joinRd bs = .bad → Kp [] s.heap h' → Q (.str "raised" t) { s with heap := h', toks := tk' }) :
    wpAny (model PySem.Challenge.rw_ok0139_01.row.prog w) (Ar dp un gd l) (call (.ref 233) [.ref a]) Q E s := by
  revert X
  k_fill
  intro X
  refine wpAny_call ?_
  have hown : ∀ q ∈ [(a, W.listOf vs.toArray n)], s.heap.get? q.1 = some q.2 ∧ base.get? q.1 = none ∧ q.1 ∉ l.filterMap (·.frame) := by
    intro q hq; cases List.mem_singleton.mp hq; exact ⟨ha, hab, hal⟩
  k_dflt (refine' enter_rawC (own := [(a, W.listOf vs.toArray n)]) B X T hown ?k6 ?k7 ?k8 ?k9 ?kB ?kD ?_ ?c2 ?c3 ?c4)
  case k6 => k_is
  case k7 => k_is
  case k8 => exact room0 hd
  case k9 => exact BindsTo.of_eq rfl
  case kB => exact rfl
  case kD => decide +kernel
  case c2 => exact rfl
  case c3 => exact rfl
  case c4 => exact rfl
  intro g' L' h' tk' cells' hkp F' N' Y' B' X' T' l1
  (try k_lt l1); k_cells Y'; (try simp only [List.cons_append, List.nil_append] at N')
  clear ha
  (try dsimp only); (try k_fold)
  k_steps
  rename (_ == sysModules) = false => lo
  rename Obj.IsDictOf (intKind _ _) _ [] => hi0
  rename PyProof.V.FlatPairs PyData.int [] [] => fi0
  rename PyProof.V.FlatPairs PyData.str [] [] => fs0
  clear fi0 fs0
  rename Obj.IsDictOf (strKind _ _) _ [] => hs0
  clear hs0
  rename News _ _ _ (_ :: _ :: _) => N0
  have N1 := news_tail N0
  unfold Hold
  refine lst_loop (x := "payload") (nm := "many") [] (fun i v nx => ∃ many kvs kw o, pFold (bs.take i) = .st many kvs ∧ ManyV v many ∧ o.IsDictOf (PySem.intKind PySem.Challenge.rw_ok0139_01.row.prog w) kw ∧ KvAre kw kvs ∧ nx = [(_, o), (L' + 1, _), (a, W.listOf vs.toArray n)]) rfl (by k_mem) (by assumption) N1 rfl ⟨none, [], [], _, rfl, .inl ⟨rfl, rfl⟩, hi0, .nil, rfl⟩ ?_ ?_ (by decide)
  · clear N1 N0 hi0
    rintro i u v m1 nx hq tkq own hu ho hin ⟨many, kvs, kw, o, hp, hv, hdo, hkv, rfl⟩ F1 N1
    clear hin
    replace F1 : Fr g' L' _ _ := F1
    replace N1 : News g' L' _ _ := N1
    simp only [List.cons_append, List.nil_append] at N1
    obtain ⟨b, tb, rfl, hbi⟩ := hb.at hu
    have hbz' : b.size ≤ 16777216 := Nat.le_trans (hbz b (List.mem_of_getElem? hbi)) (by decide)
    have hkl : kvs.length ≤ 1000 := by
      have h1 : i < bs.length := (List.getElem?_eq_some_iff.mp hbi).1
      have := pFold_len (Nat.le_of_lt h1) hp
      omega
    rcases hv with ⟨rfl, rfl⟩ | ⟨mm, tm, rfl, rfl⟩
    all_goals (try dsimp only)
    all_goals (try k_fold)
    all_goals k_steps
    all_goals first
      | exact hbad _ _ _ (joinRd_bad (take_bad hbi hp (pStep_short (beq_iff_eq.mp (by assumption)) (by omega)))) (Kp.of hkp (fun q hq => (hown q hq).1) (by assumption) (by assumption) (by kcj_all))
      | exact hbad _ _ _ (joinRd_bad (take_bad hbi hp (pStep_unfit (beq_iff_eq.mp (by assumption)) (.inr (by assumption))))) (Kp.of hkp (fun q hq => (hown q hq).1) (by assumption) (by assumption) (by kcj_all))
      | exact hbad _ _ _ (joinRd_bad (take_bad hbi hp (pStep_unfit (beq_iff_eq.mp (by assumption)) (.inl ⟨_, rfl, by assumption⟩)))) (Kp.of hkp (fun q hq => (hown q hq).1) (by assumption) (by assumption) (by kcj_all))
      | (refine InvEndG.intro (by assumption) (by assumption) ⟨?_, ⟨_, rfl, _, _, _, _, take_to hbi hp (pStep_skip (beq_eq_false_iff_ne.mp (by assumption))), ?_, hdo, hkv, rfl⟩, ?_⟩ ?_ ?_ ?_
         · k_mem
         · first | exact .inl ⟨rfl, rfl⟩ | exact .inr ⟨_, _, rfl, rfl⟩
         · intro z h1 h2 _; simp [h1, h2]
         · exact ho
         · kcf_all
         · kcf_all)
      | (refine InvEndG.intro (by assumption) (by assumption) ⟨?_, ⟨_, rfl, _, _, _, _, take_to hbi hp (pStep_put (beq_iff_eq.mp (by assumption)) (by omega) (by assumption) (by assumption) ?_ (by assumption)), .inr ⟨_, _, rfl, rfl⟩, by assumption, by assumption, rfl⟩, ?_⟩ ?_ ?_ ?_
         · k_mem
         · first | (rintro ⟨_, h, _⟩; cases h; done) | (rintro ⟨_, h, h2⟩; cases h; exact h2 (by assumption)) | (rintro ⟨_, h, h2⟩; cases h; omega)
         · intro z h1 h2 _; simp [h1, h2]
         · exact ho
         · kcf_all
         · kcf_all)
  · clear N1 N0 hi0
    rintro v m3 nx hq3 tkq3 ⟨many, kvs, kw, o, hp, hv, hdo, hkv, rfl⟩ F3 N3
    replace F3 : Fr g' L' _ _ := F3
    replace N3 : News g' L' _ _ := N3
    rw [hb.length, List.take_length] at hp
    have hkl : kvs.length ≤ 50 := by
      have := pFold_len (bs := bs) (i := bs.length) (Nat.le_refl _) (by rw [List.take_length]; exact hp)
      omega
    rcases hv with ⟨rfl, rfl⟩ | ⟨mm, tm, rfl, rfl⟩
    · (try dsimp only); (try k_fold)
      k_steps
      all_goals (try dsimp only)
      all_goals exact hnone _ _ (joinRd_none hp) (Kp.of hkp (fun q hq => (hown q hq).1) (by assumption) (by assumption) (by kcj_all))
    · (try dsimp only); (try k_fold)
      k_steps
      all_goals (try dsimp only)
      · rename List.Perm _ _ => hpm
        rename List.Pairwise _ _ => hpw
        rename IntsAre _ _ => hin
        rename (_ : Int) = _ => hlm
        obtain ⟨m0, m1, hfull⟩ := full_keys hp hlm
        have hns := keys_sorted hp hlm hpm hpw
        have hjz := joined_small hbz hp m1
        have hjr := joinRd_ok hp hlm
        have hkz := hin.length
        have hmm : mm.toNat ≤ 256 := by omega
        rename News _ _ _ ((_, W.listOf _ _) :: _ :: _) => N5
        unfold Hold
        refine LCg.CompSrc.ledger rfl (by assumption) N5 (List.Mem.head _) (by rw [PySem.sizeLine_eq, List.size_toArray, hkz, hns, rangeKs_length]; omega) ?_
        intro g₁
        refine comp_list (lookK kvs) hin (.inr ⟨_, List.Mem.head _, rfl, _, rfl⟩) ?_ ?_
        · intro k t I oI C oC D m₂ ys h tk E' hk hC hx F N off ne
          rw [hns] at hk
          have hkk := hfull k hk
          k_steps
          all_goals exact ElB.intro (by assumption) (by assumption)
        · intro ys hys
          rw [hns] at hys
          intro D h tk F N off
          (try dsimp only)
          k_steps
          all_goals (try dsimp only)
          all_goals exact hret _ _ _ _ hjr (Kp.of hkp (fun q hq => (hown q hq).1) (by assumption) (by assumption) (by kcj_all))
      · exact hbad _ _ _ (joinRd_lack hp (by assumption)) (Kp.of hkp (fun q hq => (hown q hq).1) (by assumption) (by assumption) (by kcj_all))
end
theorem mod_facts {prog : Program} {w : World} {A : Around} {E : Value → Shared → Prop} {s : Shared} {a b : Int} {ta tb : Tok} {Q : Value → Shared → Prop} (hb : 0 < b) (h : ∀ r t k, 0 ≤ r → r < b → Q (.int r t) { s with toks := k }) :
    wpAny (model prog w) A (binaryOp .Mod (.int a ta) (.int b tb)) Q E s := mod_int' (by omega) (h _ _ _ (fmod_lo _ hb) (fmod_hi _ hb))
section
theorem lay_81_0 : True := by
  k_with "binaryOp Mod int int" => (k_here; (with_reducible show wpAny _ (Around.deeper _ (envOf (Str.ofString "_law_parts") _ _ _ _)) _ _ _ _); (with_reducible show wpAny _ _ (binaryOp Operator.Mod (Value.int _ _) (Value.int _ _)) _ _ _); refine mod_facts (by omega) ?_; intro mr'₉ mt'₉ mk'₉ mlo'₉ mhi'₉)
  k_with "binaryOp Mult bytes int" => (k_here; (with_reducible show wpAny _ (Around.deeper _ (envOf (Str.ofString "_law_parts") _ _ _ _)) _ _ _ _); (with_reducible show wpAny _ _ (binaryOp Operator.Mult (Value.bytes _ _) (Value.int _ _)) _ _ _); (refine bytes_mul1 rfl (by omega) (by omega) ?_); intro mB'₉ mt'₉ mk'₉ mh'₉)
  k_with "binaryOp Add bytes bytes" => (k_here; (with_reducible show wpAny _ (Around.deeper _ (envOf (Str.ofString "_law_parts") _ _ _ _)) _ _ _ _); (with_reducible show wpAny _ _ (binaryOp Operator.Add (Value.bytes _ _) (Value.bytes _ _)) _ _ _); (refine KBy.add_bytes (by (simp only [Array.size_append, List.size_toArray, List.length_cons, List.length_nil, List.length_append, Array.length_toList, Array.size_replicate, Int.reduceToNat]; omega)) ?_); intro _ _)
  k_with "subscriptTail" => (k_here; (with_reducible show wpAny _ (Around.deeper _ (envOf (Str.ofString "_law_parts") _ _ _ _)) _ _ _ _); (with_reducible show wpAny _ _ (subscriptTail _ _ (Value.ref _) (Value.int _ _)) _ _ _); k_dflt (refine' item_sz ?N₉ ?m₉ ?w₉ ?h0₉ ?h1₉ ?h2₉ ?_; (case N₉ => k_asm); (case m₉ => k_mem); (case w₉ => (intro v hv; simp only [List.mem_cons, List.not_mem_nil, or_false] at hv; rcases hv with e | e | e | e <;> refine ⟨_, _, e, ?_⟩; all_goals first | (simp; omega) | (simp; done) | (refine Nat.le_trans (KBc.size_picked_le _ _ _) ?_; simp; omega))); (case h0₉ => first | assumption | omega); (case h1₉ => first | assumption | omega | (simp only [List.size_toArray, List.length_cons, List.length_nil]; omega)); (case h2₉ => omega); intro Hx'₉ Ht'₉ hHx'₉))
  k_with "call builtin:list.append" => (k_here; (with_reducible show wpAny _ (Around.deeper _ (envOf (Str.ofString "_law_parts") _ _ _ _)) _ _ _ _); (with_reducible show wpAny _ _ (call (Value.builtin _) [Value.ref _, _]) _ _ _); k_dflt (refine' append_K ?k1₉ ?k2₉ ?k3₉ ?_ ?z₉; (case k1₉ => k_asm); (case k2₉ => k_asm); (case k3₉ => k_upd); (case z₉ => (rw [PySem.sizeLine_eq]; (try simp only [Array.size_push]); omega)); k_whole); intro h'₉ F'₉ N'₉; (try k_sweep))
  k_with "zk_all" => (exact all_app (fun p hp => Nat.ne_of_lt ((by assumption : ∀ p ∈ _, p.1 < _) p hp)) (OwnOff.ne (by assumption) (by k_memK)))
  trivial
local macro_rules | `(tactic| k_all) => `(tactic| k_extra "zk_all")
theorem lay_81_1 : True := by
  k_with "InvPostN" => (dsimp only [InvPostN]; refine Hold.of ?_)
  k_with "pyIter ref" => (k_here; (with_reducible show wpAny _ (Around.deeper _ (envOf (Str.ofString "_law_parts") _ _ _ _)) _ _ _ _); refine Hold.of ?_)
  k_with "call type:range" => (k_here; (with_reducible show wpAny _ (Around.deeper _ (envOf (Str.ofString "_law_parts") _ _ _ _)) _ _ _ _); (rename Fr _ _ _ _ => F'₉); (rename News _ _ _ _ => N'₉); with_unfolding_all refine range1_rows F'₉ N'₉ ?_; intro _ _ _ _ _ _ _ _ _)
  trivial
theorem partsmk_raw {w : World} {p : Program} {loose : List Str} {mean : ExcName → Option Value} {mg mb : Str → Option Value}
    {dp un : Nat} {gd : Option (List Code)} {l : List Env} {base : Heap} {s : Shared} {Q E : Value → Shared → Prop} {src : Addr} {R : SrcR}
    (B : Below (Ar dp un gd l) base l s.heap) (X : (Mine.pre.heap_1 w.params).In base) (T : Top p loose mean mg mb base)
    (hs : s.heap.get? src = some (srcO R)) (hsb : base.get? src = none) (hsl : src ∉ l.filterMap (·.frame))
    (hd : dp + 40 < recursionLimit) (hu : un + 200 < cLine)
    (hret : ∀ (r : Addr) (vs : List Value) (bs : List (Array UInt8)) (k : Nat) (R' : SrcR) (h' : Heap) (tk' : Nat), BytesAre vs bs → (∀ b ∈ bs, b.size ≤ 1000) → bs.length ≤ 50 →
      s.heap.get? r = none → @LT.lt Nat _ src r → Kp [src] s.heap h' → h'.get? src = some (srcO R') → h'.get? r = some (W.listOf vs.toArray k) → Q (.ref r) { s with heap := h', toks := tk' }) :
    wpAny (model PySem.Challenge.rw_ok0139_01.row.prog w) (Ar dp un gd l) (call (.ref 228) [.ref src]) Q E s := by
  revert X
  k_fill
  intro X
  refine wpAny_call ?_
  have hown : ∀ q ∈ [(src, srcO R)], s.heap.get? q.1 = some q.2 ∧ base.get? q.1 = none ∧ q.1 ∉ l.filterMap (·.frame) := by
    intro q hq; cases List.mem_singleton.mp hq; exact ⟨hs, hsb, hsl⟩
  k_dflt (refine' enter_raw (own := [(src, srcO R)]) B X T hown ?k6 ?k7 ?k8 ?k9 ?kB ?_ ?c2 ?c3 ?c4 ?c5)
  case k6 => k_is
  case k7 => k_is
  case k8 => exact room0 hd
  case k9 => exact BindsTo.of_eq rfl
  case c5 => decide
  case kB => exact locs rfl
  case c2 => exact rfl
  case c3 => exact rfl
  case c4 => exact rfl
  intro g' L' h' hkp F' N' B' X' T' l1
  (try k_lt l1)
  clear hs
  (try dsimp only); (try k_fold)
  k_steps
  all_goals (try dsimp only)
  have hrl : ∀ (i : Nat), True := fun _ => trivial
  rename News _ _ _ (_ :: (_, W.listOf #[] 0) :: _) => N0
  have N1 := news_tail N0
  rename IsRange _ _ _ _ _ _ _ _ => R1
  unfold Hold
  refine rng_loop (x := "turn") ["way", "number", "part"] (fun i nx => ∃ (arr : Array Value) (k : Nat) (bs : List (Array UInt8)) (R : SrcR), nx = [(_, W.listOf arr k), (src, srcO R)] ∧ BytesAre arr.toList bs ∧ bs.length = i ∧ (∀ b ∈ bs, b.size ≤ 1000)) rfl R1 (by assumption) (by omega) (by assumption) N1
    ⟨#[], 0, [], _, rfl, .nil, rfl, (fun _ hq => nomatch hq)⟩ ?_ ?_
  · clear N1 N0 R1
    rintro i y t m1 nx hq tkq own hy hyb ho ⟨arr, k, bs, R₂, rfl, hb, hbl, hbz⟩ F1 N1
    replace F1 : Fr g' L' _ _ := F1
    replace N1 : News g' L' _ _ := N1
    simp only [List.cons_append, List.nil_append] at N1
    have hal : arr.size = i := by have := hb.length; rw [hbl] at this; simpa using this
    (try dsimp only); (try k_fold)
    k_steps
    all_goals (try dsimp only)
    all_goals (unfold Hold; k_dflt (refine' InvEndN.intro ?zF ?zN ⟨⟨_, _, _, _, rfl, ?zb, ?zl, ?zs⟩, ?zfr⟩ ?zha (sub_cons ?zm1 (sub_cons ?zm2 (fun p hp => nomatch hp))) ?zho; (case zF => assumption); (case zN => assumption); (case zm1 => k_mem); (case zm2 => k_mem); (case zb => rw [Array.toList_push]; exact hb.append (.cons _ _ .nil)); (case zl => rw [List.length_append, hbl]; rfl); (case zs => intro q hq; rcases List.mem_append.mp hq with hq | hq; exact hbz q hq; cases List.mem_singleton.mp hq; assumption); (case zfr => intro z h1 h2; (try simp only [List.contains_cons, List.contains_nil, Bool.or_eq_false_iff, beq_eq_false_iff_ne, Bool.or_false] at h2); simp [h1, h2]; done); (case zha => rfl); (case zho => kcf_all)))
  · clear N1 N0 R1
    rintro m3 nx hq3 tkq3 ⟨arr, k, bs, R₂, rfl, hb, hbl, hbz⟩ F3 N3
    replace F3 : Fr g' L' _ _ := F3
    replace N3 : News g' L' _ _ := N3
    have e3 : arr = arr.toList.toArray := (Array.toArray_toList).symm
    (try dsimp only); (try k_fold)
    k_steps
    all_goals (try dsimp only)
    all_goals (k_dflt (refine' hret _ arr.toList bs _ _ _ _ hb hbz (by omega) ?znr ?zlt (fun b o e nb => Fr.keep (by assumption) b o (hkp b o e nb)) ?zgs ?zgr; (case zgs => exact News.get (by assumption) (by k_mem)); (case zgr => rw [← e3]; exact News.get (by assumption) (by k_mem)); (case zlt => omega); (case znr => exact fresh_raw hkp (by assumption) (by k_mem) (mem_one (by (show @Ne Nat _ _); omega)))))
end
/-- the parts of parted_profile -/
noncomputable def partOf (P : Array UInt8) (most many : Int) (i : Nat) : Array UInt8 :=
  #[73, 67, 67, 95, 80, 82, 79, 70, 73, 76, 69, 0] ++ #[((i : Int) + 1).toNat.toUInt8, many.toNat.toUInt8] ++ KBy.picked P (some ((i : Int) * most)) (some (((i : Int) + 1) * most))
noncomputable def partsOf (P : Array UInt8) (most many : Int) (n : Nat) : List (Array UInt8) := (List.range n).map (partOf P most many)
theorem partsOf_succ {P : Array UInt8} {most many : Int} {n : Nat} : partsOf P most many (n + 1) = partsOf P most many n ++ [partOf P most many n] := by
  unfold partsOf
  rw [List.range_succ, List.map_append]
  rfl
theorem partsOf_len {P : Array UInt8} {most many : Int} {n : Nat} : (partsOf P most many n).length = n := by simp [partsOf]
theorem partOf_list {P : Array UInt8} {most many : Int} {i : Nat} : (partOf P most many i).toList = iccN ++ (((i : Int) + 1).toNat.toUInt8 :: many.toNat.toUInt8 :: (KBy.picked P (some ((i : Int) * most)) (some (((i : Int) + 1) * most))).toList) := by
  simp [partOf, iccN]
theorem partOf_size {P : Array UInt8} {most many : Int} {i : Nat} : (partOf P most many i).size = 14 + (KBy.picked P (some ((i : Int) * most)) (some (((i : Int) + 1) * most))).size := by
  rw [← Array.length_toList, partOf_list]
  simp [iccN]
  omega
theorem partOf_head {P : Array UInt8} {most many : Int} {i : Nat} : (KBy.picked (partOf P most many i) Option.none (some 12)).toList = iccN := by
  rw [pk_list, partOf_list]
  have h12 : clipAt (partOf P most many i).size 12 = min 12 (partOf P most many i).size := clip_pos _ 12
  have hz : 14 ≤ (partOf P most many i).size := by rw [partOf_size]; omega
  simp only [Option.elim, h12]
  rw [show min 12 (partOf P most many i).size - 0 = 12 from by omega]
  rfl
theorem partOf_tail {P : Array UInt8} {most many : Int} {i : Nat} : KBy.picked (partOf P most many i) (some 14) Option.none = KBy.picked P (some ((i : Int) * most)) (some (((i : Int) + 1) * most)) := by
  apply Array.toList_inj.mp
  rw [pk_list, partOf_list]
  have h14 : clipAt (partOf P most many i).size 14 = min 14 (partOf P most many i).size := clip_pos _ 14
  have hz : 14 ≤ (partOf P most many i).size := by rw [partOf_size]; omega
  simp only [Option.elim, h14]
  rw [show min 14 (partOf P most many i).size = 14 from by omega]
  have e : (iccN ++ (((i : Int) + 1).toNat.toUInt8 :: many.toNat.toUInt8 :: (KBy.picked P (some ((i : Int) * most)) (some (((i : Int) + 1) * most))).toList)).drop 14 = (KBy.picked P (some ((i : Int) * most)) (some (((i : Int) + 1) * most))).toList := rfl
  rw [e]
  apply List.take_of_length_le
  rw [Array.length_toList, partOf_size]
  omega
theorem small_byte {z : Int} (h0 : 0 ≤ z) (h1 : z < 256) : ((z.toNat.toUInt8).toNat : Int) = z := by
  have : z.toNat < 256 := by omega
  simp [Nat.mod_eq_of_lt this]
  omega
theorem partOf_12 {P : Array UInt8} {most many : Int} {i : Nat} (h : i < 255) : pNum (partOf P most many i) 12 = (i : Int) + 1 := by
  unfold pNum
  rw [partOf_list]
  exact small_byte (by omega) (by omega)
theorem partOf_13 {P : Array UInt8} {most many : Int} {i : Nat} (h0 : 0 ≤ many) (h1 : many < 256) : pNum (partOf P most many i) 13 = many := by
  unfold pNum
  rw [partOf_list]
  exact small_byte h0 h1
noncomputable def cutOf (P : Array UInt8) (most : Int) (i : Nat) : Array UInt8 := KBy.picked P (some ((i : Int) * most)) (some (((i : Int) + 1) * most))
noncomputable def kvsOfParts (P : Array UInt8) (most : Int) (n : Nat) : List (Int × Array UInt8) := (List.range n).map fun (i : Nat) => ((i : Int) + 1, cutOf P most i)
theorem kvsOf_key {P : Array UInt8} {most : Int} {n : Nat} : hasKey (kvsOfParts P most n) ((n : Int) + 1) = false := by
  unfold hasKey kvsOfParts
  rw [List.any_eq_false]
  intro q hq
  obtain ⟨i, hi, rfl⟩ := List.mem_map.mp hq
  have := List.mem_range.mp hi
  simp
  omega
theorem pFold_parts {P : Array UInt8} {most : Int} {many : Int} (h1 : 1 ≤ many) (h2 : many ≤ 255) : ∀ n : Nat, (n : Int) ≤ many → pFold (partsOf P most many n) = .st (if n = 0 then none else some many) (kvsOfParts P most n)
  | 0, _ => rfl
  | n + 1, hn => by
    have ih := pFold_parts h1 h2 (P := P) (most := most) n (by omega)
    unfold pFold at ih ⊢
    rw [partsOf_succ, List.foldl_append, ih]
    have e12 := partOf_12 (P := P) (most := most) (many := many) (i := n) (by omega)
    have e13 := partOf_13 (P := P) (most := most) (many := many) (i := n) (by omega) (by omega)
    have hp : pStep (.st (if n = 0 then none else some many) (kvsOfParts P most n)) (partOf P most many n) = .st (some (pNum (partOf P most many n) 13)) (kvsOfParts P most n ++ [(pNum (partOf P most many n) 12, KBy.picked (partOf P most many n) (some 14) Option.none)]) := by
      refine pStep_put partOf_head (by rw [partOf_size]; omega) (by rw [e12]; omega) (by rw [e12, e13]; omega) ?_ (by rw [e12]; exact kvsOf_key)
      rintro ⟨m, hm, hne⟩
      rw [e13] at hne
      split at hm
      · cases hm
      · cases hm; exact hne rfl
    rw [List.foldl_cons, List.foldl_nil]
    rw [hp, e12, e13, partOf_tail, if_neg (by omega)]
    unfold kvsOfParts
    rw [List.range_succ, List.map_append]
    rfl
theorem lookK_parts {P : Array UInt8} {most : Int} {n i : Nat} (h : i < n) : lookK (kvsOfParts P most n) ((i : Int) + 1) = cutOf P most i := by
  unfold lookK
  have hf : (kvsOfParts P most n).find? (fun p => p.1 = (i : Int) + 1) = some ((i : Int) + 1, cutOf P most i) := by
    have hs : ((kvsOfParts P most n).find? (fun p => p.1 = (i : Int) + 1)).isSome := by
      rw [List.find?_isSome]
      exact ⟨((i : Int) + 1, cutOf P most i), List.mem_map.mpr ⟨i, List.mem_range.mpr h, rfl⟩, by simp⟩
    obtain ⟨q, hq⟩ := Option.isSome_iff_exists.mp hs
    have h1 := List.find?_some hq
    obtain ⟨j, hj, rfl⟩ := List.mem_map.mp (List.mem_of_find?_eq_some hq)
    simp at h1
    rw [hq, show j = i from by omega]
  rw [hf]
  rfl
theorem joined_parts {P : Array UInt8} {most : Int} {n : Nat} (h0 : 1 ≤ n) (h1 : n ≤ 255) : joinRd (partsOf P most n n) = .ok (jflat ((List.range n).map (cutOf P most))) := by
  have hp := pFold_parts (P := P) (most := most) (many := n) (by omega) (by omega) n (Int.le_refl _)
  rw [if_neg (by omega)] at hp
  rw [joinRd_ok hp (by simp [kvsOfParts])]
  unfold joinedOf
  congr 2
  unfold rangeKs
  rw [List.map_map, Int.toNat_natCast]
  refine List.map_congr_left fun i hi => ?_
  have := List.mem_range.mp hi
  show lookK _ (1 + (i : Int)) = _
  rw [show (1 : Int) + (i : Int) = (i : Int) + 1 from by omega]
  exact lookK_parts this
theorem cut_list {P : Array UInt8} {most : Nat} {i : Nat} : (cutOf P most i).toList = (P.toList.drop (i * most)).take most := by
  unfold cutOf
  rw [pk_list]
  have e1 : clipAt P.size ((i : Int) * (most : Int)) = min (i * most) P.size := by
    have := clip_pos P.size (i * most)
    rw [← this]; congr 1
  have e2 : clipAt P.size (((i : Int) + 1) * (most : Int)) = min ((i + 1) * most) P.size := by
    have := clip_pos P.size ((i + 1) * most)
    rw [← this]; congr 1
  simp only [Option.elim, e1, e2]
  have hm : (i + 1) * most = i * most + most := by rw [Nat.add_mul, Nat.one_mul]
  rw [hm]
  rcases Nat.le_total P.size (i * most) with h | h
  · rw [List.drop_eq_nil_of_le (by simp; omega), List.drop_eq_nil_of_le (by simp; omega)]; simp
  · rw [show min (i * most) P.size = i * most from by omega]
    rcases Nat.le_total P.size (i * most + most) with h2 | h2
    · rw [show min (i * most + most) P.size = P.size from by omega, List.take_of_length_le (by simp), List.take_of_length_le (by simp; omega)]
    · rw [show min (i * most + most) P.size = i * most + most from by omega]
      congr 1
      omega
theorem flat_cuts {P : Array UInt8} {most : Nat} : ∀ n : Nat, (((List.range n).map (cutOf P most)).map Array.toList).flatten = P.toList.take (n * most)
  | 0 => by simp
  | n + 1 => by
    rw [List.range_succ, List.map_append, List.map_append, List.flatten_append, flat_cuts n]
    simp only [List.map_cons, List.map_nil, List.flatten_cons, List.flatten_nil, List.append_nil]
    rw [cut_list, Nat.add_mul, Nat.one_mul, List.take_add]
theorem joined_whole {P : Array UInt8} {most n : Nat} (h0 : 1 ≤ n) (h1 : n ≤ 255) (h : P.size ≤ n * most) : joinRd (partsOf P most n n) = .ok P := by
  rw [joined_parts h0 h1]
  congr 1
  unfold jflat
  rw [flat_cuts, List.take_of_length_le (by simpa using h)]
theorem cut_size {P : Array UInt8} {most i : Nat} : (cutOf P most i).size ≤ most := by
  rw [← Array.length_toList, cut_list, List.length_take]
  omega
theorem parts_sizes {P : Array UInt8} {most : Nat} {many : Int} {n : Nat} : ∀ b ∈ partsOf P most many n, b.size ≤ 14 + most := by
  intro b hb
  obtain ⟨i, hi, rfl⟩ := List.mem_map.mp hb
  rw [partOf_size]
  have := cut_size (P := P) (most := most) (i := i)
  unfold cutOf at this
  omega
theorem parts_sizesP {P : Array UInt8} {most many : Int} {n : Nat} : ∀ b ∈ partsOf P most many n, b.size ≤ 14 + P.size := by
  intro b hb
  obtain ⟨i, hi, rfl⟩ := List.mem_map.mp hb
  rw [partOf_size]
  have := KBc.size_picked_le P (some ((i : Int) * most)) (some (((i : Int) + 1) * most))
  omega
def PartedN (z : Nat) (most : Int) (N : Nat) : Prop := (most = 1 ∧ N = max 1 z) ∨ (most = 65519 ∧ N = 1)
theorem many_1 (z : Nat) : ∃ N : Nat, (if ((z : Int) + 1 - 1).fdiv 1 > 1 then ((z : Int) + 1 - 1).fdiv 1 else 1) = (N : Int) ∧ PartedN z 1 N := by
  have e : ((z : Int) + 1 - 1).fdiv 1 = (z : Int) := by rw [Int.fdiv_one]; omega
  rw [e]
  refine ⟨max 1 z, ?_, .inl ⟨rfl, rfl⟩⟩
  split <;> omega
theorem many_2 {z : Nat} (h : z ≤ 256) : ∃ N : Nat, (if ((z : Int) + 65519 - 1).fdiv 65519 > 1 then ((z : Int) + 65519 - 1).fdiv 65519 else 1) = (N : Int) ∧ PartedN z 65519 N ∧ N ≤ 255 := by
  refine ⟨1, ?_, .inr ⟨rfl, rfl⟩, by decide⟩
  rw [if_neg]
  · rfl
  · rw [Int.fdiv_eq_ediv_of_nonneg _ (by omega)]
    omega
section
theorem lay_83_0 : True := by
  k_with "call builtin:list.append" => (k_here; (with_reducible show wpAny _ (Around.deeper _ (envOf (Str.ofString "parted_profile") _ _ _ _)) _ _ _ _); (with_reducible show wpAny _ _ (call (Value.builtin _) [Value.ref _, _]) _ _ _); k_dflt (refine' append_K ?k1₉ ?k2₉ ?k3₉ ?_ ?z₉; (case k1₉ => k_asm); (case k2₉ => k_asm); (case k3₉ => k_upd); (case z₉ => (rw [PySem.sizeLine_eq]; (try simp only [Array.size_push]); omega)); k_whole); intro h'₉ F'₉ N'₉; (try k_sweep))
  k_with "zk_all" => (exact all_app (fun p hp => Nat.ne_of_lt ((by assumption : ∀ p ∈ _, p.1 < _) p hp)) (OwnOff.ne (by assumption) (by k_memK)))
  trivial
local macro_rules | `(tactic| k_all) => `(tactic| k_extra "zk_all")
theorem lay_83_1 : True := by
  k_with "binaryOp Add bytes bytes" => (k_here; (with_reducible show wpAny _ (Around.deeper _ (envOf (Str.ofString "parted_profile") _ _ _ _)) _ _ _ _); (with_reducible show wpAny _ _ (binaryOp Operator.Add (Value.bytes _ _) (Value.bytes _ _)) _ _ _); (refine KBy.add_bytes (by (simp only [Array.size_append, List.size_toArray, List.length_cons, List.length_nil]; omega)) ?_); intro _ _)
  k_with "InvPostN" => (dsimp only [InvPostN]; refine Hold.of ?_)
  k_with "pyIter ref" => (k_here; (with_reducible show wpAny _ (Around.deeper _ (envOf (Str.ofString "parted_profile") _ _ _ _)) _ _ _ _); refine Hold.of ?_)
  k_with "call type:range" => (k_here; (with_reducible show wpAny _ (Around.deeper _ (envOf (Str.ofString "parted_profile") _ _ _ _)) _ _ _ _); (rename Fr _ _ _ _ => F'₉); (rename News _ _ _ _ => N'₉); with_unfolding_all refine range1_rows F'₉ N'₉ ?_; intro _ _ _ _ _ _ _ _ _)
  trivial
theorem parted_raw {w : World} {p : Program} {loose : List Str} {mean : ExcName → Option Value} {mg mb : Str → Option Value}
    {dp un : Nat} {gd : Option (List Code)} {l : List Env} {base : Heap} {s : Shared} {Q E : Value → Shared → Prop} {P : Array UInt8} {tp tm : Tok} {most : Int}
    (B : Below (Ar dp un gd l) base l s.heap) (X : (Mine.pre.heap_1 w.params).In base) (T : Top p loose mean mg mb base)
    (hd : dp + 20 < recursionLimit) (hu : un + 100 < cLine) (hP : P.size ≤ 256) (hm : most = 0 ∨ most = 1 ∨ most = 65519 ∨ most = 65520)
    (hret : ∀ (r : Addr) (vs : List Value) (N k : Nat) (h' : Heap) (tk' : Nat), PartedN P.size most N → N ≤ 255 → BytesAre vs (partsOf P most N N) →
      s.heap.get? r = none → Kp [] s.heap h' → h'.get? r = some (W.listOf vs.toArray k) → Q (.ref r) { s with heap := h', toks := tk' })
    (hraz : ∀ (e : Addr) (h' : Heap) (tk' : Nat), (most = 0 ∨ most = 65520 ∨ (most = 1 ∧ 255 < P.size)) → Raz base s.heap l [] e h' → E (.ref e) { s with heap := h', toks := tk' }) :
    wpAny (model PySem.Challenge.rw_ok0139_01.row.prog w) (Ar dp un gd l) (call (.ref 61) [.bytes P tp, .int most tm]) Q E s := by
  revert X
  k_fill
  intro X
  refine wpAny_call ?_
  k_dflt (refine' enter_raw (own := []) B X T (fun _ hq => nomatch hq) ?k6 ?k7 ?k8 ?k9 ?kB ?_ ?c2 ?c3 ?c4 ?c5)
  case k6 => k_is
  case k7 => k_is
  case k8 => exact room0 hd
  case k9 => exact binds_K (Frag.In.keeps X B.stays) rfl (by k_is) rfl rfl rfl
  case c5 => decide
  case kB => exact locs rfl
  case c2 => exact rfl
  case c3 => exact rfl
  case c4 => exact rfl
  intro g' L' h' hkp F' N' B' X' T' l1
  have hPz : P.size ≤ 16777216 := by omega
  rcases hm with rfl | rfl | rfl | rfl
  all_goals (try dsimp only)
  all_goals (try k_fold)
  all_goals k_steps
  all_goals (try dsimp only)
  · exact hraz _ _ _ (.inl rfl) (Raz.raw hkp (fun q hq => nomatch hq) (fun q hq => nomatch hq) (by assumption))
  · obtain ⟨N, hN, hpn⟩ := many_1 P.size
    rename 255 < _ => h255
    rw [hN] at h255
    refine hraz _ _ _ (.inr (.inr ⟨rfl, ?_⟩)) (Raz.raw hkp (fun q hq => nomatch hq) (fun q hq => nomatch hq) (by assumption))
    rcases hpn with ⟨_, h⟩ | ⟨h, _⟩
    · omega
    · exact absurd h (by decide)
  · rename News _ _ _ ((_, W.listOf #[] 0) :: _) => N1
    rename IsRange _ _ _ _ _ _ _ _ => R1
    rename Fr _ _ _ _ => F1
    obtain ⟨N, hN, hpn⟩ := many_1 P.size
    rename ¬ 255 < _ => h255
    rw [hN] at h255
    have hN5 : N ≤ 255 := by omega
    simp only [hN] at F1 R1 ⊢
    clear hN
    unfold Hold
    refine rng_loop (x := "number") [] (fun i nx => ∃ (arr : Array Value) (k : Nat), nx = [(_, W.listOf arr k)] ∧ BytesAre arr.toList (partsOf P 1 N i)) rfl R1 (by omega) (by omega) F1 N1 ⟨#[], 0, rfl, .nil⟩ ?_ ?_
    · clear N1 R1 F1
      rintro i y t m1 nx hq tkq own rfl hyb ho ⟨arr, k, rfl, hb⟩ F1 N1
      replace F1 : Fr g' L' _ _ := F1
      replace N1 : News g' L' _ _ := N1
      simp only [List.cons_append, List.nil_append] at N1
      have hal : arr.size = i := by have := hb.length; rw [partsOf_len] at this; simpa using this
      (try dsimp only); (try k_fold)
      k_steps
      all_goals (unfold Hold; k_dflt (refine' InvEndN.intro ?zF ?zN ⟨⟨_, _, rfl, ?zb⟩, ?zfr⟩ ?zha (sub_cons ?zm1 (fun p hp => nomatch hp)) ?zho; (case zF => assumption); (case zN => assumption); (case zm1 => k_mem); (case zb => rw [Array.toList_push, partsOf_succ]; exact hb.append (.cons _ _ .nil)); (case zfr => intro z h1 h2; (try simp only [List.contains_cons, List.contains_nil, Bool.or_eq_false_iff, beq_eq_false_iff_ne, Bool.or_false] at h2); simp [h1, h2]; done); (case zha => rfl); (case zho => kcf_all)))
    · clear N1 R1 F1
      rintro m3 nx hq3 tkq3 ⟨arr, k, rfl, hb⟩ F3 N3
      replace F3 : Fr g' L' _ _ := F3
      replace N3 : News g' L' _ _ := N3
      rw [Int.toNat_natCast] at hb
      have e3 : arr = arr.toList.toArray := (Array.toArray_toList).symm
      (try dsimp only); (try k_fold)
      k_steps
      all_goals (try dsimp only)
      all_goals exact hret _ arr.toList N _ _ _ hpn (by omega) hb (fresh_raw hkp (by assumption) (List.Mem.head _) (fun q hq => nomatch hq)) (Kp.of hkp (fun q hq => nomatch hq) (by assumption) (by assumption) (fun q hq => nomatch hq)) (by rw [← e3]; exact News.get (by assumption) (List.Mem.head _))
  · rename News _ _ _ ((_, W.listOf #[] 0) :: _) => N1
    rename IsRange _ _ _ _ _ _ _ _ => R1
    rename Fr _ _ _ _ => F1
    obtain ⟨N, hN, hpn, hN5⟩ := many_2 hP
    simp only [hN] at F1 R1 ⊢
    clear hN
    unfold Hold
    refine rng_loop (x := "number") [] (fun i nx => ∃ (arr : Array Value) (k : Nat), nx = [(_, W.listOf arr k)] ∧ BytesAre arr.toList (partsOf P 65519 N i)) rfl R1 (by omega) (by omega) F1 N1 ⟨#[], 0, rfl, .nil⟩ ?_ ?_
    · clear N1 R1 F1
      rintro i y t m1 nx hq tkq own rfl hyb ho ⟨arr, k, rfl, hb⟩ F1 N1
      replace F1 : Fr g' L' _ _ := F1
      replace N1 : News g' L' _ _ := N1
      simp only [List.cons_append, List.nil_append] at N1
      have hal : arr.size = i := by have := hb.length; rw [partsOf_len] at this; simpa using this
      (try dsimp only); (try k_fold)
      k_steps
      all_goals (unfold Hold; k_dflt (refine' InvEndN.intro ?zF ?zN ⟨⟨_, _, rfl, ?zb⟩, ?zfr⟩ ?zha (sub_cons ?zm1 (fun p hp => nomatch hp)) ?zho; (case zF => assumption); (case zN => assumption); (case zm1 => k_mem); (case zb => rw [Array.toList_push, partsOf_succ]; exact hb.append (.cons _ _ .nil)); (case zfr => intro z h1 h2; (try simp only [List.contains_cons, List.contains_nil, Bool.or_eq_false_iff, beq_eq_false_iff_ne, Bool.or_false] at h2); simp [h1, h2]; done); (case zha => rfl); (case zho => kcf_all)))
    · clear N1 R1 F1
      rintro m3 nx hq3 tkq3 ⟨arr, k, rfl, hb⟩ F3 N3
      replace F3 : Fr g' L' _ _ := F3
      replace N3 : News g' L' _ _ := N3
      rw [Int.toNat_natCast] at hb
      have e3 : arr = arr.toList.toArray := (Array.toArray_toList).symm
      (try dsimp only); (try k_fold)
      k_steps
      all_goals (try dsimp only)
      all_goals exact hret _ arr.toList N _ _ _ hpn (by omega) hb (fresh_raw hkp (by assumption) (List.Mem.head _) (fun q hq => nomatch hq)) (Kp.of hkp (fun q hq => nomatch hq) (by assumption) (by assumption) (fun q hq => nomatch hq)) (by rw [← e3]; exact News.get (by assumption) (List.Mem.head _))
  · exact hraz _ _ _ (.inr (.inl rfl)) (Raz.raw hkp (fun q hq => nomatch hq) (fun q hq => nomatch hq) (by assumption))
end
theorem fold_bounds (F : Int → Int → Int) : ∀ (l : List Int) (a : Int), 0 ≤ a → a < 2147483647 → 0 ≤ l.foldl (fun a' n' => (F a' n').fmod 2147483647) a ∧ l.foldl (fun a' n' => (F a' n').fmod 2147483647) a < 2147483647
  | [], _, h0, h1 => ⟨h0, h1⟩
  | n :: l, _, _, _ => fold_bounds F l _ (fmod_lo _ (by decide)) (fmod_hi _ (by decide))
theorem abs_pos (a : Int) : 0 ≤ if a < 0 then -a else a := by split <;> omega
section
theorem pool_raw {w : World} {p : Program} {loose : List Str} {mean : ExcName → Option Value} {mg mb : Str → Option Value}
    {dp un : Nat} {gd : Option (List Code)} {l : List Env} {base : Heap} {s : Shared} {Q E : Value → Shared → Prop} {a : Addr} {vs : List Value} {ns : List Int}
    (B : Below (Ar dp un gd l) base l s.heap) (X : (Mine.pre.heap_1 w.params).In base) (T : Top p loose mean mg mb base)
    (hl : base.IsList a vs.toArray) (hi : IntsAre vs ns) (hn : ns.length ≤ 63) (hd : dp + 20 < recursionLimit) (hu : un + 100 < cLine)
    (hret : ∀ (r : Addr) (x y : Int) (tx ty : Tok) (n : Nat) (h' : Heap) (tk' : Nat), 0 ≤ x → 0 ≤ y → y < 2147483647 → s.heap.get? r = none → Kp [] s.heap h' → h'.get? r = some (W.listOf #[.int x tx, .int y ty] n) → Q (.ref r) { s with heap := h', toks := tk' }) :
    wpAny (model PySem.Challenge.rw_ok0139_01.row.prog w) (Ar dp un gd l) (call (.ref 158) [.ref a]) Q E s := by
  revert X
  k_fill
  intro X
  refine wpAny_call ?_
  k_dflt (refine' enter_raw (own := []) B X T (fun _ hq => nomatch hq) ?k6 ?k7 ?k8 ?k9 ?kB ?_ ?c2 ?c3 ?c4 ?c5)
  case k6 => k_is
  case k7 => k_is
  case k8 => exact room0 hd
  case k9 => exact BindsTo.of_eq rfl
  case c5 => decide
  case kB => exact locs rfl
  case c2 => exact rfl
  case c3 => exact rfl
  case c4 => exact rfl
  intro g' L' h' hkp F' N' B' X' T' l1
  have hl' : g'.IsList a vs.toArray := hl.at fun o e => B'.stays _ _ e
  clear hl
  (k_with "pyIter ref" => k_invariant "mixed" (fun a => 0 ≤ a ∧ a < 2147483647))
  (k_with "InvPostN" => dsimp only [InvPostN])
  (try dsimp only); (try k_fold)
  k_steps
  all_goals (try dsimp only)
  all_goals (k_dflt (refine' hret _ _ _ _ _ _ _ _ ?zx ?zy ?zz ?zn ?zk ?zg; (case zg => exact News.get (by assumption) (List.Mem.head _)); (case zx => first | exact abs_pos _ | exact Int.le_refl 0 | decide); (case zy => exact (fold_bounds _ _ _ (by decide) (by decide)).1); (case zz => exact (fold_bounds _ _ _ (by decide) (by decide)).2); (case zn => exact fresh_raw hkp (by assumption) (List.Mem.head _) (fun q hq => nomatch hq)); (case zk => exact Kp.of hkp (fun q hq => nomatch hq) (by assumption) (by assumption) (fun q hq => nomatch hq))))
end
section
variable {w : World} {p : Program} {loose : List Str} {mean : ExcName → Option Value} {mg mb : Str → Option Value}
    {dp un : Nat} {gd : Option (List Code)} {outer : List Env} {env : Env} {base h₀ : Heap} {L : Addr} {m : Str → Option Value} {news : List (Addr × Obj)} {s : Shared} {Q E : Value → Shared → Prop}
theorem fresh_ne {h₀ h : Heap} {L r : Addr} {news : List (Addr × Obj)} (N : News h₀ L h news) (hr : h.get? r = none) : ∀ q ∈ news, @Ne Nat q.1 r := fun q hq z => by
  have := (N q hq).1
  rw [show q.1 = r from z, hr] at this; cases this
theorem pool_line {a : Addr} {vs : List Value} {ns : List Int}
    (B : Below (Ar dp un gd outer) base outer h₀) (F : Fr h₀ L s.heap m) (N : News h₀ L s.heap news) (X : (Mine.pre.heap_1 w.params).In base) (T : Top p loose mean mg mb base) (hf : env.frame = some L) (hke : env.scope.kind = .function)
    (hl : base.IsList a vs.toArray) (hi : IntsAre vs ns) (hn : ns.length ≤ 63) (hd : dp + 21 < recursionLimit) (hu : un + 103 < cLine)
    (hret : ∀ (r : Addr) (R : SrcR) (h' : Heap) (tk' : Nat), (∀ q ∈ news, @Ne Nat q.1 r) → Fr h₀ L h' m → News h₀ L h' ((r, srcO R) :: news) → Q (.ref r) { s with heap := h', toks := tk' }) :
    wpAny (model PySem.Challenge.rw_ok0139_01.row.prog w) ((Ar dp un gd outer).deeper env) (call (.ref 158) [.ref a]) Q E s := by
  refine pool_raw (dp := dp + 1) (un := un + 3) (l := env :: outer) (gd := gd) (below_here B F hf hke) X T hl hi hn (room2 hd rfl) (room2 hu rfl) ?_
  intro r x y tx ty n h' tk' hx hy hy2 hr kp gr
  exact hret r (SrcR.of x y tx ty n hx hy hy2) h' tk' (fresh_ne N hr) (F.keeps fun b o e => kp b o e (fun z => nomatch z)) (news_one F N kp hr gr)
theorem small_line {src : Addr} {R : SrcR} {news' : Obj → List (Addr × Obj)}
    (B : Below (Ar dp un gd outer) base outer h₀) (F : Fr h₀ L s.heap m) (N : News h₀ L s.heap news) (X : (Mine.pre.heap_1 w.params).In base) (T : Top p loose mean mg mb base) (hf : env.frame = some L) (hke : env.scope.kind = .function)
    (U : ∀ o', Upd src (srcO R) o' news (news' o')) (hd : dp + 41 < recursionLimit) (hu : un + 203 < cLine)
    (hret : ∀ (x dx : Addr) (k : Str) (wd ht : Int) (P O : Array UInt8) (u0 u1 u2 u3 u4 : Tok) (t1 t2 t3 t4 t5 : Tok) (R' : SrcR) (h' : Heap) (tk' : Nat),
      KindOk k → P.size ≤ 1000000 → O.size ≤ 1000000 → (SmallOk k wd ht P O → k ≠ "jpeg" → wd ≤ 3 ∧ ht ≤ 2) → @LT.lt Nat _ dx x → @LT.lt Nat _ src dx → (∀ q ∈ news, @Ne Nat q.1 x) → (∀ q ∈ news, @Ne Nat q.1 dx) →
      Fr h₀ L h' m → News h₀ L h' ((x, instObj 91 dx) :: (dx, thumbD w t1 t2 t3 t4 t5 k u0 wd u1 ht u2 P u3 O u4) :: news' (srcO R')) → Q (.ref x) { s with heap := h', toks := tk' }) :
    wpAny (model PySem.Challenge.rw_ok0139_01.row.prog w) ((Ar dp un gd outer).deeper env) (call (.ref 186) [.ref src]) Q E s := by
  have mem : (src, srcO R) ∈ news := by
    obtain ⟨pre, post, rfl, _⟩ := (U default).split
    simp
  refine small_mk (dp := dp + 1) (un := un + 3) (l := env :: outer) (gd := gd) (below_here B F hf hke) X T (N _ mem).1 (none_base B (N _ mem).2.2) (not_frame B N hf mem) (room2 hd rfl) (room2 hu rfl) ?_
  intro x dx k wd ht P O u0 u1 u2 u3 u4 t1 t2 t3 t4 t5 R' h' tk' hk hP hO hdm hlt hx hdx hsd kp gs gx gd'
  obtain ⟨F', N'⟩ := use_kp1 F N (U _) kp gs
  have fr : ∀ a, s.heap.get? a = none → a ≠ L ∧ h₀.get? a = none := fun a ha => by
    refine ⟨fun z => ?_, ?_⟩
    · obtain ⟨oL, _, _, hL, _⟩ := F.ns
      rw [z, hL] at ha; cases ha
    · cases z : h₀.get? a with
      | none => rfl
      | some o => rw [F.keep _ _ z] at ha; cases ha
  refine hret x dx k wd ht P O u0 u1 u2 u3 u4 t1 t2 t3 t4 t5 R' h' tk' hk hP hO hdm hlt hsd (fresh_ne N hx) (fresh_ne N hdx) F' fun q hq => ?_
  rcases List.mem_cons.mp hq with rfl | hq
  · exact ⟨gx, (fr _ hx).1, (fr _ hx).2⟩
  rcases List.mem_cons.mp hq with rfl | hq
  · exact ⟨gd', (fr _ hdx).1, (fr _ hdx).2⟩
  · exact N' q hq
theorem payload_line {src : Addr} {R : SrcR} {news' : Obj → List (Addr × Obj)}
    (B : Below (Ar dp un gd outer) base outer h₀) (F : Fr h₀ L s.heap m) (N : News h₀ L s.heap news) (X : (Mine.pre.heap_1 w.params).In base) (T : Top p loose mean mg mb base) (hf : env.frame = some L) (hke : env.scope.kind = .function)
    (U : ∀ o', Upd src (srcO R) o' news (news' o')) (hd : dp + 41 < recursionLimit) (hu : un + 203 < cLine)
    (hret : ∀ (b : Array UInt8) (t : Tok) (R' : SrcR) (h' : Heap) (tk' : Nat), b.size ≤ 10000 →
      Fr h₀ L h' m → News h₀ L h' (news' (srcO R')) → Q (.bytes b t) { s with heap := h', toks := tk' }) :
    wpAny (model PySem.Challenge.rw_ok0139_01.row.prog w) ((Ar dp un gd outer).deeper env) (call (.ref 207) [.ref src]) Q E s := by
  have mem : (src, srcO R) ∈ news := by
    obtain ⟨pre, post, rfl, _⟩ := (U default).split
    simp
  refine payload_raw (dp := dp + 1) (un := un + 3) (l := env :: outer) (gd := gd) (below_here B F hf hke) X T (N _ mem).1 (none_base B (N _ mem).2.2) (not_frame B N hf mem) (room2 hd rfl) (room2 hu rfl) ?_
  intro b t R' h' tk' hb kp gs
  obtain ⟨F', N'⟩ := use_kp1 F N (U _) kp gs
  exact hret b t R' h' tk' hb F' N'
theorem partsmk_line {src : Addr} {R : SrcR} {news' : Obj → List (Addr × Obj)}
    (B : Below (Ar dp un gd outer) base outer h₀) (F : Fr h₀ L s.heap m) (N : News h₀ L s.heap news) (X : (Mine.pre.heap_1 w.params).In base) (T : Top p loose mean mg mb base) (hf : env.frame = some L) (hke : env.scope.kind = .function)
    (U : ∀ o', Upd src (srcO R) o' news (news' o')) (hd : dp + 41 < recursionLimit) (hu : un + 203 < cLine)
    (hret : ∀ (r : Addr) (vs : List Value) (bs : List (Array UInt8)) (k : Nat) (R' : SrcR) (h' : Heap) (tk' : Nat), BytesAre vs bs → (∀ b ∈ bs, b.size ≤ 1000) → bs.length ≤ 50 →
      (∀ q ∈ news, @Ne Nat q.1 r) → Fr h₀ L h' m → News h₀ L h' ((r, W.listOf vs.toArray k) :: news' (srcO R')) → Q (.ref r) { s with heap := h', toks := tk' }) :
    wpAny (model PySem.Challenge.rw_ok0139_01.row.prog w) ((Ar dp un gd outer).deeper env) (call (.ref 228) [.ref src]) Q E s := by
  have mem : (src, srcO R) ∈ news := by
    obtain ⟨pre, post, rfl, _⟩ := (U default).split
    simp
  refine partsmk_raw (dp := dp + 1) (un := un + 3) (l := env :: outer) (gd := gd) (below_here B F hf hke) X T (N _ mem).1 (none_base B (N _ mem).2.2) (not_frame B N hf mem) (room2 hd rfl) (room2 hu rfl) ?_
  intro r vs bs k R' h' tk' hb hbz hbl hr hlt kp gs gr
  obtain ⟨F', N'⟩ := use_kp1 F N (U _) kp gs
  have fr : r ≠ L ∧ h₀.get? r = none := by
    refine ⟨fun z => ?_, ?_⟩
    · obtain ⟨oL, _, _, hL, _⟩ := F.ns
      rw [z, hL] at hr; cases hr
    · cases z : h₀.get? r with
      | none => rfl
      | some o => rw [F.keep _ _ z] at hr; cases hr
  refine hret r vs bs k R' h' tk' hb hbz hbl (fresh_ne N hr) F' fun q hq => ?_
  rcases List.mem_cons.mp hq with rfl | hq
  · exact ⟨gr, fr.1, fr.2⟩
  · exact N' q hq
theorem right_line {src x dx : Addr} {k : Str} {wd ht : Int} {P O : Array UInt8} {u0 u1 u2 u3 u4 : Tok} {t1 t2 t3 t4 t5 : Tok} {R : SrcR}
    (B : Below (Ar dp un gd outer) base outer h₀) (F : Fr h₀ L s.heap m) (N : News h₀ L s.heap news) (X : (Mine.pre.heap_1 w.params).In base) (T : Top p loose mean mg mb base) (hf : env.frame = some L) (hke : env.scope.kind = .function) (C : CodeHd base 199 195)
    (ms : (src, srcO R) ∈ news) (mx : (x, instObj 91 dx) ∈ news) (mdx : (dx, thumbD w t1 t2 t3 t4 t5 k u0 wd u1 ht u2 P u3 O u4) ∈ news) (mt : (195, tabObj #[]) ∈ news) (hxd : @LT.lt Nat _ dx x) (hts : @Ne Nat 195 src ∧ @Ne Nat 195 dx ∧ @Ne Nat 195 x) (hsd : @LT.lt Nat _ src dx)
    (hd : dp + 61 < recursionLimit) (hu : un + 303 < cLine) (hkk : KindOk k) (hP : P.size ≤ 1000000) (hO : O.size ≤ 1000000) (hdims : SmallOk k wd ht P O → k ≠ "jpeg" → wd ≤ 3 ∧ ht ≤ 2)
    (hret : ∀ (R' : SrcR) (ps : Array Value) (h₁ h' : Heap) (tk' : Nat), KtsTurn (outer.filterMap (·.frame)) h₀ h₁ → Below (Ar dp un gd outer) base outer h₁ → Fr h₁ L h' m →
      (∀ news', (∀ q ∈ news', (q ∈ news ∧ @Ne Nat q.1 src ∧ @Ne Nat q.1 195) ∨ q = (src, srcO R') ∨ q = (195, tabObj ps)) → News h₁ L h' news') → Q (.bool true) { s with heap := h', toks := tk' }) :
    wpAny (model PySem.Challenge.rw_ok0139_01.row.prog w) ((Ar dp un gd outer).deeper env) (call (.ref 200) [.ref src, .ref x]) Q E s := by
  refine right_raw (dp := dp + 1) (un := un + 3) (l := env :: outer) (gd := gd) (below_here B F hf hke) X T C (N _ ms).1 (none_base B (N _ ms).2.2) (not_frame B N hf ms) (N _ mx).1 (N _ mdx).1 (none_base B (N _ mx).2.2) (none_base B (N _ mdx).2.2) (not_frame B N hf mx) (not_frame B N hf mdx) hxd
    (N _ mt).1 (none_base B (N _ mt).2.2) (not_frame B N hf mt) hts hsd (room2 hd rfl) (room2 hu rfl) hkk hP hO hdims ?_
  rintro R' h' tk' kg gs ⟨ps, gt⟩
  obtain ⟨h₁, T₁, B₁, F₁, N₁⟩ := turnedG B F N hf kg (fun a ha => by
    rcases List.mem_cons.mp ha with rfl | ha
    · exact ⟨_, ms⟩
    · cases List.mem_singleton.mp ha; exact ⟨_, mt⟩)
  refine hret R' ps h₁ h' tk' T₁ B₁ F₁ fun news' hn => N₁ news' fun q hq => ?_
  rcases hn q hq with ⟨h1, h2, h3⟩ | rfl | rfl
  · exact .inl ⟨h1, fun hm => by
      rcases List.mem_cons.mp hm with z | hm
      · exact h2 z
      · exact h3 (List.mem_singleton.mp hm)⟩
  · exact .inr ⟨.head _, gs⟩
  · exact .inr ⟨.tail _ (.head _), gt⟩
end
section
variable {w : World} {p : Program} {loose : List Str} {mean : ExcName → Option Value} {mg mb : Str → Option Value}
    {dp un : Nat} {gd : Option (List Code)} {outer : List Env} {env : Env} {base h₀ : Heap} {L : Addr} {m : Str → Option Value} {news : List (Addr × Obj)} {s : Shared} {Q E : Value → Shared → Prop}
theorem news_kp (N : News h₀ L s.heap news) {h' : Heap} (k : Kp [] s.heap h') : News h₀ L h' news := fun q hq => ⟨k _ _ (N q hq).1 (fun z => nomatch z), (N q hq).2⟩
theorem fr_kp {h : Heap} (F : Fr h₀ L h m) {h' : Heap} (k : Kp [] h h') : Fr h₀ L h' m := F.keeps fun b o e => k b o e (fun z => nomatch z)
theorem read_line {tb0 : Tok} {b : Array UInt8}
    (B : Below (Ar dp un gd outer) base outer h₀) (F : Fr h₀ L s.heap m) (N : News h₀ L s.heap news) (X : (Mine.pre.heap_1 w.params).In base) (T : Top p loose mean mg mb base) (hf : env.frame = some L) (hke : env.scope.kind = .function)
    (hd : dp + 61 < recursionLimit) (hu : un + 303 < cLine) (hb : b.size ≤ 10000)
    (hnone : ∀ (h' : Heap) (tk' : Nat), readRd b = .none → Fr h₀ L h' m → News h₀ L h' news → Q .none { s with heap := h', toks := tk' })
    (hret : ∀ (x dx : Addr) (k : Str) (wd ht : Int) (P O : Array UInt8) (u0 u1 u2 u3 u4 : Tok) (t1 t2 t3 t4 t5 : Tok) (h' : Heap) (tk' : Nat), readRd b = .row k wd ht P O → @LT.lt Nat _ dx x → (∀ q ∈ news, q.1 ≠ x ∧ q.1 ≠ dx) →
      Fr h₀ L h' m → News h₀ L h' ((x, instObj 91 dx) :: (dx, thumbD w t1 t2 t3 t4 t5 k u0 wd u1 ht u2 P u3 O u4) :: news) → Q (.ref x) { s with heap := h', toks := tk' })
    (hraz : ∀ (e : Addr) (h' : Heap) (tk' : Nat), readRd b = .bad → Raz base s.heap (env :: outer) [] e h' → E (.ref e) { s with heap := h', toks := tk' }) :
    wpAny (model PySem.Challenge.rw_ok0139_01.row.prog w) ((Ar dp un gd outer).deeper env) (call (.ref 130) [.bytes b tb0]) Q E s := by
  refine read_raw (dp := dp + 1) (un := un + 3) (l := env :: outer) (gd := gd) (below_here B F hf hke) X T (room2 hd rfl) (room2 hu rfl) hb (fun h' tk' hr kp => hnone h' tk' hr (fr_kp F kp) (news_kp N kp)) ?_ hraz
  intro x dx k wd ht P O u0 u1 u2 u3 u4 t1 t2 t3 t4 t5 h' tk' hs hlt hx hdx kp gx gd'
  exact hret x dx k wd ht P O u0 u1 u2 u3 u4 t1 t2 t3 t4 t5 h' tk' hs hlt (fun q hq => ⟨fresh_ne N hx q hq, fresh_ne N hdx q hq⟩) (fr_kp F kp) (news_two F N kp hx hdx gx gd')
theorem due_line {tb0 : Tok} {b : Array UInt8}
    (B : Below (Ar dp un gd outer) base outer h₀) (F : Fr h₀ L s.heap m) (N : News h₀ L s.heap news) (X : (Mine.pre.heap_1 w.params).In base) (T : Top p loose mean mg mb base) (hf : env.frame = some L) (hke : env.scope.kind = .function)
    (hd : dp + 61 < recursionLimit) (hu : un + 303 < cLine) (hb : b.size ≤ 10000)
    (hnone : ∀ (h' : Heap) (tk' : Nat), readRd b = .none → Fr h₀ L h' m → News h₀ L h' news → Q .none { s with heap := h', toks := tk' })
    (hret : ∀ (a : Addr) (k : Str) (wd ht : Int) (P O : Array UInt8) (u0 u1 u2 u3 u4 : Tok) (h' : Heap) (tk' : Nat), readRd b = .row k wd ht P O → (∀ q ∈ news, @Ne Nat q.1 a) → Fr h₀ L h' m → News h₀ L h' ((a, { cls := .type "tuple", data := .seq (rowT k u0 wd u1 ht u2 P u3 O u4) }) :: news) → Q (.ref a) { s with heap := h', toks := tk' })
    (hbad : ∀ (t : Tok) (h' : Heap) (tk' : Nat), readRd b = .bad → Fr h₀ L h' m → News h₀ L h' news → Q (.str "raised" t) { s with heap := h', toks := tk' }) :
    wpAny (model PySem.Challenge.rw_ok0139_01.row.prog w) ((Ar dp un gd outer).deeper env) (call (.ref 221) [.bytes b tb0]) Q E s := by
  refine due_raw (dp := dp + 1) (un := un + 3) (l := env :: outer) (gd := gd) (below_here B F hf hke) X T (room2 hd rfl) (room2 hu rfl) hb (fun h' tk' hr kp => hnone h' tk' hr (fr_kp F kp) (news_kp N kp)) ?_ (fun t h' tk' hr kp => hbad t h' tk' hr (fr_kp F kp) (news_kp N kp))
  intro a k wd ht P O u0 u1 u2 u3 u4 h' tk' hs ha kp ga
  exact hret a k wd ht P O u0 u1 u2 u3 u4 h' tk' hs (fresh_ne N ha) (fr_kp F kp) (news_one F N kp ha ga)
theorem joined_line {a : Addr} {vs : List Value} {bs : List (Array UInt8)} {n : Nat}
    (B : Below (Ar dp un gd outer) base outer h₀) (F : Fr h₀ L s.heap m) (N : News h₀ L s.heap news) (X : (Mine.pre.heap_1 w.params).In base) (T : Top p loose mean mg mb base) (hf : env.frame = some L) (hke : env.scope.kind = .function)
    (ma : (a, W.listOf vs.toArray n) ∈ news) (hb : BytesAre vs bs) (hbz : ∀ b ∈ bs, b.size ≤ 1000) (hbl : bs.length ≤ 300) (hd : dp + 41 < recursionLimit) (hu : un + 203 < cLine)
    (hnone : ∀ (h' : Heap) (tk' : Nat), joinRd bs = .none → Fr h₀ L h' m → News h₀ L h' news → Q .none { s with heap := h', toks := tk' })
    (hret : ∀ (b : Array UInt8) (t : Tok) (h' : Heap) (tk' : Nat), joinRd bs = .ok b → Fr h₀ L h' m → News h₀ L h' news → Q (.bytes b t) { s with heap := h', toks := tk' })
    (hraz : ∀ (e : Addr) (h' : Heap) (tk' : Nat), joinRd bs = .bad → Raz base s.heap (env :: outer) [] e h' → E (.ref e) { s with heap := h', toks := tk' }) :
    wpAny (model PySem.Challenge.rw_ok0139_01.row.prog w) ((Ar dp un gd outer).deeper env) (call (.ref 73) [.ref a]) Q E s :=
  joined_raw (dp := dp + 1) (un := un + 3) (l := env :: outer) (gd := gd) (below_here B F hf hke) X T (N _ ma).1 (none_base B (N _ ma).2.2) (not_frame B N hf ma) hb hbz hbl (room2 hd rfl) (room2 hu rfl) (fun h' tk' hr kp => hnone h' tk' hr (fr_kp F kp) (news_kp N kp)) (fun b t h' tk' hr kp => hret b t h' tk' hr (fr_kp F kp) (news_kp N kp)) hraz
theorem partsdue_line {a : Addr} {vs : List Value} {bs : List (Array UInt8)} {n : Nat}
    (B : Below (Ar dp un gd outer) base outer h₀) (F : Fr h₀ L s.heap m) (N : News h₀ L s.heap news) (X : (Mine.pre.heap_1 w.params).In base) (T : Top p loose mean mg mb base) (hf : env.frame = some L) (hke : env.scope.kind = .function)
    (ma : (a, W.listOf vs.toArray n) ∈ news) (hb : BytesAre vs bs) (hbz : ∀ b ∈ bs, b.size ≤ 1000) (hbl : bs.length ≤ 50) (hd : dp + 41 < recursionLimit) (hu : un + 203 < cLine)
    (hnone : ∀ (h' : Heap) (tk' : Nat), joinRd bs = .none → Fr h₀ L h' m → News h₀ L h' news → Q .none { s with heap := h', toks := tk' })
    (hret : ∀ (b : Array UInt8) (t : Tok) (h' : Heap) (tk' : Nat), joinRd bs = .ok b → Fr h₀ L h' m → News h₀ L h' news → Q (.bytes b t) { s with heap := h', toks := tk' })
    (hbad : ∀ (t : Tok) (h' : Heap) (tk' : Nat), joinRd bs = .bad → Fr h₀ L h' m → News h₀ L h' news → Q (.str "raised" t) { s with heap := h', toks := tk' }) :
    wpAny (model PySem.Challenge.rw_ok0139_01.row.prog w) ((Ar dp un gd outer).deeper env) (call (.ref 233) [.ref a]) Q E s :=
  partsdue_raw (dp := dp + 1) (un := un + 3) (l := env :: outer) (gd := gd) (below_here B F hf hke) X T (N _ ma).1 (none_base B (N _ ma).2.2) (not_frame B N hf ma) hb hbz hbl (room2 hd rfl) (room2 hu rfl) (fun h' tk' hr kp => hnone h' tk' hr (fr_kp F kp) (news_kp N kp)) (fun b t h' tk' hr kp => hret b t h' tk' hr (fr_kp F kp) (news_kp N kp)) (fun t h' tk' hr kp => hbad t h' tk' hr (fr_kp F kp) (news_kp N kp))
theorem parted_line {P : Array UInt8} {tp tm : Tok} {most : Int}
    (B : Below (Ar dp un gd outer) base outer h₀) (F : Fr h₀ L s.heap m) (N : News h₀ L s.heap news) (X : (Mine.pre.heap_1 w.params).In base) (T : Top p loose mean mg mb base) (hf : env.frame = some L) (hke : env.scope.kind = .function)
    (hd : dp + 21 < recursionLimit) (hu : un + 103 < cLine) (hP : P.size ≤ 256) (hm : most = 0 ∨ most = 1 ∨ most = 65519 ∨ most = 65520)
    (hret : ∀ (r : Addr) (vs : List Value) (M k : Nat) (h' : Heap) (tk' : Nat), PartedN P.size most M → M ≤ 255 → BytesAre vs (partsOf P most M M) →
      (∀ q ∈ news, q.1 ≠ r) → Fr h₀ L h' m → News h₀ L h' ((r, W.listOf vs.toArray k) :: news) → Q (.ref r) { s with heap := h', toks := tk' })
    (hraz : ∀ (e : Addr) (h' : Heap) (tk' : Nat), (most = 0 ∨ most = 65520 ∨ (most = 1 ∧ 255 < P.size)) → Raz base s.heap (env :: outer) [] e h' → E (.ref e) { s with heap := h', toks := tk' }) :
    wpAny (model PySem.Challenge.rw_ok0139_01.row.prog w) ((Ar dp un gd outer).deeper env) (call (.ref 61) [.bytes P tp, .int most tm]) Q E s := by
  refine parted_raw (dp := dp + 1) (un := un + 3) (l := env :: outer) (gd := gd) (below_here B F hf hke) X T (room2 hd rfl) (room2 hu rfl) hP hm ?_ hraz
  intro r vs M k h' tk' hpn hM hb hr kp gr
  exact hret r vs M k h' tk' hpn hM hb (fresh_ne N hr) (fr_kp F kp) (news_one F N kp hr gr)
end

theorem lay_87 : True := by
  k_with "call ref" => (k_here; (with_reducible show wpAny _ _ (call (Value.ref 158) _) _ _ _); k_dflt (refine' pool_line ?B₉ ?F₉ ?N₉ ?X₉ ?T₉ ?hf₉ ?hke₉ ?hl₉ ?hi₉ ?hn₉ ?hd₉ ?hu₉ ?_; walk_at "zA"; (case hl₉ => assumption); (case hi₉ => assumption); (case hn₉ => omega); walk_at "zD"); intro r'₉ R'₉ h'₉ tk'₉ ne'₉ F'₉ N'₉; (k_lt ne'₉); (try k_sweep))
  k_with "call ref" => (k_here; (with_reducible show wpAny _ _ (call (Value.ref 186) _) _ _ _); k_dflt (refine' small_line ?B₉ ?F₉ ?N₉ ?X₉ ?T₉ ?hf₉ ?hke₉ ?U₉ ?hd₉ ?hu₉ ?_; walk_at "zA"; (case U₉ => intro _; k_upd); walk_at "zD"); intro x'₉ dx'₉ k'₉ wd'₉ ht'₉ P'₉ O'₉ u0'₉ u1'₉ u2'₉ u3'₉ u4'₉ t1'₉ t2'₉ t3'₉ t4'₉ t5'₉ R'₉ h'₉ tk'₉ kk'₉ sP'₉ sO'₉ dm'₉ lt'₉ sd'₉ nx'₉ nd'₉ F'₉ N'₉; (try dsimp only at N'₉); (k_lt nx'₉); (k_lt nd'₉); (try k_sweep))
  k_with "call ref" => (k_here; (with_reducible show wpAny _ _ (call (Value.ref 207) _) _ _ _); k_dflt (refine' payload_line ?B₉ ?F₉ ?N₉ ?X₉ ?T₉ ?hf₉ ?hke₉ ?U₉ ?hd₉ ?hu₉ ?_; walk_at "zA"; (case U₉ => intro _; k_upd); walk_at "zD"); intro pb'₉ pt'₉ R'₉ h'₉ tk'₉ pz'₉ F'₉ N'₉; (try dsimp only at N'₉); (try k_sweep))
  k_with "call ref" => (k_here; (with_reducible show wpAny _ _ (call (Value.ref 228) _) _ _ _); k_dflt (refine' partsmk_line ?B₉ ?F₉ ?N₉ ?X₉ ?T₉ ?hf₉ ?hke₉ ?U₉ ?hd₉ ?hu₉ ?_; walk_at "zA"; (case U₉ => intro _; k_upd); walk_at "zD"); intro r'₉ vs'₉ bs'₉ k'₉ R'₉ h'₉ tk'₉ pb'₉ pz'₉ pl'₉ ne'₉ F'₉ N'₉; (try dsimp only at N'₉); (k_lt ne'₉); (try k_sweep))
  k_with "call ref" => (k_here; (with_reducible show wpAny _ _ (call (Value.ref 130) _) _ _ _); k_dflt (refine' read_line ?B₉ ?F₉ ?N₉ ?X₉ ?T₉ ?hf₉ ?hke₉ ?hd₉ ?hu₉ ?hb₉ ?_ ?_ ?_; walk_at "zA"; (case hb₉ => assumption); walk_at "zD"); all_goals first | (intro x'₉ dx'₉ k'₉ wd'₉ ht'₉ P'₉ O'₉ u0'₉ u1'₉ u2'₉ u3'₉ u4'₉ t1'₉ t2'₉ t3'₉ t4'₉ t5'₉ h'₉ tk'₉ rd'₉ lt'₉ ne'₉ F'₉ N'₉; (try k_sweep)) | (intro h'₉ tk'₉ rd'₉ F'₉ N'₉; (try k_sweep)) | (intro e'₉ h'₉ tk'₉ rd'₉ R'₉))
  k_with "call ref" => (k_here; (with_reducible show wpAny _ _ (call (Value.ref 221) _) _ _ _); k_dflt (refine' due_line ?B₉ ?F₉ ?N₉ ?X₉ ?T₉ ?hf₉ ?hke₉ ?hd₉ ?hu₉ ?hb₉ ?_ ?_ ?_; walk_at "zA"; (case hb₉ => assumption); walk_at "zD"); all_goals first | (intro a'₉ k'₉ wd'₉ ht'₉ P'₉ O'₉ u0'₉ u1'₉ u2'₉ u3'₉ u4'₉ h'₉ tk'₉ rd'₉ ne'₉ F'₉ N'₉; (try k_sweep)) | (intro h'₉ tk'₉ rd'₉ F'₉ N'₉; (try k_sweep)) | (intro t'₉ h'₉ tk'₉ rd'₉ F'₉ N'₉; (try k_sweep)))
  k_with "call ref" => (k_here; (with_reducible show wpAny _ _ (call (Value.ref 73) _) _ _ _); k_dflt (refine' joined_line ?B₉ ?F₉ ?N₉ ?X₉ ?T₉ ?hf₉ ?hke₉ ?ma₉ ?hb₉ ?hbz₉ ?hbl₉ ?hd₉ ?hu₉ ?_ ?_ ?_; walk_at "zA"; (case ma₉ => k_mem); (case hb₉ => assumption); (case hbz₉ => assumption); (case hbl₉ => omega); walk_at "zD"); all_goals first | (intro jb'₉ jt'₉ h'₉ tk'₉ jr'₉ F'₉ N'₉; (try k_sweep)) | (intro h'₉ tk'₉ jr'₉ F'₉ N'₉; (try k_sweep)) | (intro e'₉ h'₉ tk'₉ jr'₉ R'₉))
  k_with "call ref" => (k_here; (with_reducible show wpAny _ _ (call (Value.ref 233) _) _ _ _); k_dflt (refine' partsdue_line ?B₉ ?F₉ ?N₉ ?X₉ ?T₉ ?hf₉ ?hke₉ ?ma₉ ?hb₉ ?hbz₉ ?hbl₉ ?hd₉ ?hu₉ ?_ ?_ ?_; walk_at "zA"; (case ma₉ => k_mem); (case hb₉ => assumption); (case hbz₉ => assumption); (case hbl₉ => omega); walk_at "zD"); all_goals first | (intro jb'₉ jt'₉ h'₉ tk'₉ jr'₉ F'₉ N'₉; (try k_sweep)) | (intro h'₉ tk'₉ jr'₉ F'₉ N'₉; (try k_sweep)) | (intro jt'₉ h'₉ tk'₉ jr'₉ F'₉ N'₉; (try k_sweep)))
  k_with "call ref" => (k_here; (with_reducible show wpAny _ _ (call (Value.ref 61) _) _ _ _); k_dflt (refine' parted_line ?B₉ ?F₉ ?N₉ ?X₉ ?T₉ ?hf₉ ?hke₉ ?hd₉ ?hu₉ ?hP₉ ?hm₉ ?_ ?_; walk_at "zA"; (case hP₉ => assumption); (case hm₉ => assumption); walk_at "zD"); all_goals first | (intro r'₉ vs'₉ M'₉ k'₉ h'₉ tk'₉ pn'₉ pM'₉ pb'₉ ne'₉ F'₉ N'₉; (try k_sweep)) | (intro e'₉ h'₉ tk'₉ pr'₉ R'₉))
  k_with "call ref" => (k_here; (with_reducible show wpAny _ _ (call (Value.ref 200) _) _ _ _); refine Hold.of ?_)
  trivial

section
variable {w : World} {p : Program} {loose : List Str} {mean : ExcName → Option Value} {mg mb : Str → Option Value}
    {dp un : Nat} {gd : Option (List Code)} {outer : List Env} {env : Env} {base h₀ : Heap} {L : Addr} {m : Str → Option Value} {news : List (Addr × Obj)} {s : Shared} {Q E : Value → Shared → Prop}
theorem news_app {h : Heap} {nx : List (Addr × Obj)} (N1 : News h₀ L h nx) (N2 : News h₀ L h news) : News h₀ L h (nx ++ news) := fun q hq => (List.mem_append.mp hq).elim (N1 q) (N2 q)
theorem due_none {tb0 : Tok} {b : Array UInt8} (hr : readRd b = .none)
    (B : Below (Ar dp un gd outer) base outer h₀) (F : Fr h₀ L s.heap m) (N : News h₀ L s.heap news) (X : (Mine.pre.heap_1 w.params).In base) (T : Top p loose mean mg mb base) (hf : env.frame = some L) (hke : env.scope.kind = .function)
    (hd : dp + 61 < recursionLimit) (hu : un + 303 < cLine) (hb : b.size ≤ 10000)
    (hnone : ∀ (h' : Heap) (tk' : Nat), Fr h₀ L h' m → News h₀ L h' news → Q .none { s with heap := h', toks := tk' }) :
    wpAny (model PySem.Challenge.rw_ok0139_01.row.prog w) ((Ar dp un gd outer).deeper env) (call (.ref 221) [.bytes b tb0]) Q E s :=
  due_line B F N X T hf hke hd hu hb (fun h' tk' _ => hnone h' tk') (fun a k wd ht P O u0 u1 u2 u3 u4 h' tk' e => by rw [hr] at e; cases e) (fun t h' tk' e => by rw [hr] at e; cases e)
theorem due_bad {tb0 : Tok} {b : Array UInt8} (hr : readRd b = .bad)
    (B : Below (Ar dp un gd outer) base outer h₀) (F : Fr h₀ L s.heap m) (N : News h₀ L s.heap news) (X : (Mine.pre.heap_1 w.params).In base) (T : Top p loose mean mg mb base) (hf : env.frame = some L) (hke : env.scope.kind = .function)
    (hd : dp + 61 < recursionLimit) (hu : un + 303 < cLine) (hb : b.size ≤ 10000)
    (hbad : ∀ (t : Tok) (h' : Heap) (tk' : Nat), Fr h₀ L h' m → News h₀ L h' news → Q (.str "raised" t) { s with heap := h', toks := tk' }) :
    wpAny (model PySem.Challenge.rw_ok0139_01.row.prog w) ((Ar dp un gd outer).deeper env) (call (.ref 221) [.bytes b tb0]) Q E s :=
  due_line B F N X T hf hke hd hu hb (fun h' tk' e => by rw [hr] at e; cases e) (fun a k wd ht P O u0 u1 u2 u3 u4 h' tk' e => by rw [hr] at e; cases e) (fun t h' tk' _ => hbad t h' tk')
theorem due_row {tb0 : Tok} {b : Array UInt8} {k : Str} {wd ht : Int} {P O : Array UInt8} (hr : readRd b = .row k wd ht P O)
    (B : Below (Ar dp un gd outer) base outer h₀) (F : Fr h₀ L s.heap m) (N : News h₀ L s.heap news) (X : (Mine.pre.heap_1 w.params).In base) (T : Top p loose mean mg mb base) (hf : env.frame = some L) (hke : env.scope.kind = .function)
    (hd : dp + 61 < recursionLimit) (hu : un + 303 < cLine) (hb : b.size ≤ 10000)
    (hret : ∀ (a : Addr) (u0 u1 u2 u3 u4 : Tok) (h' : Heap) (tk' : Nat), (∀ q ∈ news, @Ne Nat q.1 a) → Fr h₀ L h' m → News h₀ L h' ((a, { cls := .type "tuple", data := .seq (rowT k u0 wd u1 ht u2 P u3 O u4) }) :: news) → Q (.ref a) { s with heap := h', toks := tk' }) :
    wpAny (model PySem.Challenge.rw_ok0139_01.row.prog w) ((Ar dp un gd outer).deeper env) (call (.ref 221) [.bytes b tb0]) Q E s :=
  due_line B F N X T hf hke hd hu hb (fun h' tk' e => by rw [hr] at e; cases e) (fun a k' wd' ht' P' O' u0 u1 u2 u3 u4 h' tk' e ne F' N' => by rw [hr] at e; cases e; exact hret a u0 u1 u2 u3 u4 h' tk' ne F' N') (fun t h' tk' e => by rw [hr] at e; cases e)
theorem pdue_none {a : Addr} {vs : List Value} {bs : List (Array UInt8)} {n : Nat} (hr : joinRd bs = .none)
    (B : Below (Ar dp un gd outer) base outer h₀) (F : Fr h₀ L s.heap m) (N : News h₀ L s.heap news) (X : (Mine.pre.heap_1 w.params).In base) (T : Top p loose mean mg mb base) (hf : env.frame = some L) (hke : env.scope.kind = .function)
    (ma : (a, W.listOf vs.toArray n) ∈ news) (hb : BytesAre vs bs) (hbz : ∀ b ∈ bs, b.size ≤ 1000) (hbl : bs.length ≤ 50) (hd : dp + 41 < recursionLimit) (hu : un + 203 < cLine)
    (hnone : ∀ (h' : Heap) (tk' : Nat), Fr h₀ L h' m → News h₀ L h' news → Q .none { s with heap := h', toks := tk' }) :
    wpAny (model PySem.Challenge.rw_ok0139_01.row.prog w) ((Ar dp un gd outer).deeper env) (call (.ref 233) [.ref a]) Q E s :=
  partsdue_line B F N X T hf hke ma hb hbz hbl hd hu (fun h' tk' _ => hnone h' tk') (fun b t h' tk' e => by rw [hr] at e; cases e) (fun t h' tk' e => by rw [hr] at e; cases e)
theorem pdue_bad {a : Addr} {vs : List Value} {bs : List (Array UInt8)} {n : Nat} (hr : joinRd bs = .bad)
    (B : Below (Ar dp un gd outer) base outer h₀) (F : Fr h₀ L s.heap m) (N : News h₀ L s.heap news) (X : (Mine.pre.heap_1 w.params).In base) (T : Top p loose mean mg mb base) (hf : env.frame = some L) (hke : env.scope.kind = .function)
    (ma : (a, W.listOf vs.toArray n) ∈ news) (hb : BytesAre vs bs) (hbz : ∀ b ∈ bs, b.size ≤ 1000) (hbl : bs.length ≤ 50) (hd : dp + 41 < recursionLimit) (hu : un + 203 < cLine)
    (hbad : ∀ (t : Tok) (h' : Heap) (tk' : Nat), Fr h₀ L h' m → News h₀ L h' news → Q (.str "raised" t) { s with heap := h', toks := tk' }) :
    wpAny (model PySem.Challenge.rw_ok0139_01.row.prog w) ((Ar dp un gd outer).deeper env) (call (.ref 233) [.ref a]) Q E s :=
  partsdue_line B F N X T hf hke ma hb hbz hbl hd hu (fun h' tk' e => by rw [hr] at e; cases e) (fun b t h' tk' e => by rw [hr] at e; cases e) (fun t h' tk' _ => hbad t h' tk')
theorem pdue_ok {a : Addr} {vs : List Value} {bs : List (Array UInt8)} {n : Nat} {b : Array UInt8} (hr : joinRd bs = .ok b)
    (B : Below (Ar dp un gd outer) base outer h₀) (F : Fr h₀ L s.heap m) (N : News h₀ L s.heap news) (X : (Mine.pre.heap_1 w.params).In base) (T : Top p loose mean mg mb base) (hf : env.frame = some L) (hke : env.scope.kind = .function)
    (ma : (a, W.listOf vs.toArray n) ∈ news) (hb : BytesAre vs bs) (hbz : ∀ b ∈ bs, b.size ≤ 1000) (hbl : bs.length ≤ 50) (hd : dp + 41 < recursionLimit) (hu : un + 203 < cLine)
    (hret : ∀ (t : Tok) (h' : Heap) (tk' : Nat), Fr h₀ L h' m → News h₀ L h' news → Q (.bytes b t) { s with heap := h', toks := tk' }) :
    wpAny (model PySem.Challenge.rw_ok0139_01.row.prog w) ((Ar dp un gd outer).deeper env) (call (.ref 233) [.ref a]) Q E s :=
  partsdue_line B F N X T hf hke ma hb hbz hbl hd hu (fun h' tk' e => by rw [hr] at e; cases e) (fun b' t h' tk' e F' N' => by rw [hr] at e; cases e; exact hret t h' tk' F' N') (fun t h' tk' e => by rw [hr] at e; cases e)
def ReadPv (w : World) (b : Array UInt8) (v : Value) (nx : List (Addr × Obj)) : Prop :=
  (v = .none ∧ nx = [] ∧ readRd b = .none) ∨ ∃ (x dx : Addr) (k : Str) (wd ht : Int) (P O : Array UInt8) (u0 u1 u2 u3 u4 t1 t2 t3 t4 t5 : Tok), v = .ref x ∧ nx = [(x, instObj 91 dx), (dx, thumbD w t1 t2 t3 t4 t5 k u0 wd u1 ht u2 P u3 O u4)] ∧ readRd b = .row k wd ht P O ∧ @LT.lt Nat _ dx x
def JoinPv (bs : List (Array UInt8)) (v : Value) (nx : List (Addr × Obj)) : Prop :=
  (v = .none ∧ nx = [] ∧ joinRd bs = .none) ∨ ∃ b t, v = .bytes b t ∧ nx = [] ∧ joinRd bs = .ok b
def PartPv (P : Array UInt8) (most : Int) (v : Value) (nx : List (Addr × Obj)) : Prop :=
  ∃ r vs M k, v = .ref r ∧ nx = [(r, W.listOf vs.toArray k)] ∧ PartedN P.size most M ∧ M ≤ 255 ∧ BytesAre vs (partsOf P most M M)
def PartPr (P : Array UInt8) (most : Int) : Prop := most = 0 ∨ most = 65520 ∨ (most = 1 ∧ 255 < P.size)
end
def MostP (k : Int) : Prop := k = 0 ∨ k = 1 ∨ k = 65519 ∨ k = 65520
def SizeP (k : Int) : Prop := k = 0 ∨ k = 255 ∨ k = 256
theorem SizeP.nat {z : Int} (h : SizeP z) : ∃ n : Nat, z = n ∧ (n = 0 ∨ n = 255 ∨ n = 256) := by
  rcases h with rfl | rfl | rfl
  · exact ⟨0, rfl, .inl rfl⟩
  · exact ⟨255, rfl, .inr (.inl rfl)⟩
  · exact ⟨256, rfl, .inr (.inr rfl)⟩
theorem item_menu {prog : Program} {w : World} {A : Around} {E : Value → Shared → Prop} {s : Shared} {a : Addr} {n : Nat} {i : Int} {u : Tok} {value slice : PySem.Expr} {vs : Array Value} {Q : Value → Shared → Prop} {h₀ : Heap} {L : Addr} {news : List (Addr × Obj)} (Pm : Int → Prop) (N : News h₀ L s.heap news) (hm : (a, W.listOf vs n) ∈ news)
    (hw : ∀ v ∈ vs.toList, ∃ k t, v = .int k t ∧ Pm k) (h0 : 0 ≤ i) (h1 : i < (vs.size : Int)) (h2 : i < 1000)
    (h : ∀ k t, Pm k → Q (.int k t) s)
    (hs : subscripted slice false (.ref a) (.int i u) = operate [.ref a, .int i u] (getItem (.ref a) (.int i u)) := by with_unfolding_all rfl) :
    wpAny (model prog w) A (subscriptTail value slice (.ref a) (.int i u)) Q E s := by
  have hl : s.heap.IsList a vs := ⟨_, (N _ hm).1, rfl, _, rfl⟩
  have hlt : i.toNat < vs.size := by omega
  obtain ⟨k, t, e, hk⟩ := hw vs[i.toNat] (by simp)
  exact tail_any hl.typeIs slot_list_getitem.lookup (wpAny_getItem_list hl h0 (by omega) (x := .int k t) (by simp [hlt, e]) (h k t hk)) hs
theorem brange_line {prog : Program} {w : World} {A : Around} {E : Value → Shared → Prop} {s : Shared} {Q : Value → Shared → Prop} {h₀ : Heap} {L r : Addr} {m : Str → Option Value} {news : List (Addr × Obj)} {n : Nat} {t u v : Tok} (F : Fr h₀ L s.heap m) (N : News h₀ L s.heap news)
    (hr : IsRange s.heap r 0 (n : Int) 1 t u v) (hn : n ≤ 256) (hh : A.handled = none) (h : ∀ h' t k, Fr h₀ L h' m → News h₀ L h' news → Q (.bytes (upTo n) t) { s with heap := h', toks := k }) :
    wpAny (model prog w) A (call (.type "bytes") [.ref r]) Q E s :=
  call_bytes_range hr hn hh fun h' t k hk => h h' t k (F.keeps hk) fun q hq => ⟨hk _ _ (N q hq).1, (N q hq).2⟩
theorem MostP.gen {k : Int} (h : MostP k) : ∃ m, m = k ∧ MostP m := ⟨k, rfl, h⟩
section
open PyProof.Rows.LCg
variable {prog : Program} {w : World} {A : Around} {h₀ : Heap} {L : Addr} {m : Str → Option Value} {env : Env} {elt : Expr} {x : Str} {scope : Scope} {cl : List (Str × Addr)} {s : Shared} {S : List (Addr × Obj) → Prop} {Fin : List Value → List (Addr × Obj) → Prop} {news : List (Addr × Obj)}
/-- the end of an element that made a number and changed nothing -/
def ElI (h₀ : Heap) (L : Addr) (m : Str → Option Value) (news : List (Addr × Obj)) (s : Shared) (k : Int) (y : Value) (s₂ : Shared) : Prop :=
  ∃ t h' tk', y = .int k t ∧ s₂ = { s with heap := h', toks := tk' } ∧ Fr h₀ L h' m ∧ News h₀ L h' news
theorem ElI.intro {h' : Heap} {tk' : Nat} {k : Int} {t : Tok} (F : Fr h₀ L h' m) (N : News h₀ L h' news) : ElI h₀ L m news s k (.int k t) { s with heap := h', toks := tk' } := ⟨t, h', tk', rfl, rfl, F, N⟩
noncomputable def lensOf (bs : List (Array UInt8)) : List Int := bs.map fun b => (b.size : Int)
theorem comp_lens {vs : List Value} {bs : List (Array UInt8)} (hb : BytesAre vs bs) (hS : S news)
    (turn : ∀ b t I oI C oC D m₂ ys h tk (E' : Value → Shared → Prop), b ∈ bs → NsObj oC m₂ → m₂ x = some (.bytes b t) → Fr h₀ L h m → News h₀ L h ((I, oI) :: (C, oC) :: (D, lst ys) :: news) → Off3 I C D news → ((@Ne Nat I C) ∧ (@Ne Nat I D) ∧ (@Ne Nat C D)) →
      wpAny (model prog w) A (eval elt (compEnvC scope cl C env)) (ElI h₀ L m ((I, oI) :: (C, oC) :: (D, lst ys) :: news) { s with heap := h, toks := tk } (b.size : Int)) E' { s with heap := h, toks := tk })
    (fin : ∀ ys, IntsAre ys (lensOf bs) → Fin ys news) : CompRest prog w A h₀ L m env elt x scope cl s S (fun i v => vs.toArray[i]? = some v) Fin vs.toArray.size 0 [] news := by
  have key : ∀ (j i : Nat) (ys : List Value), i + j = vs.toArray.size → IntsAre ys (lensOf (bs.take i)) → CompRest prog w A h₀ L m env elt x scope cl s S (fun i v => vs.toArray[i]? = some v) Fin j i ys news := by
    intro j
    induction j with
    | zero =>
      intro i ys hi hy
      have e : i = bs.length := by rw [List.size_toArray, hb.length] at hi; omega
      subst e
      rw [List.take_length] at hy
      exact CompRest.zero (fin ys hy)
    | succ j ih =>
      intro i ys hi hy
      refine CompRest.succ ?_
      intro v I oI C oC D m₂ h tk E' hv hC hx F N off ne
      obtain ⟨b, t, hv', hk⟩ := BytesAre.at hb (i := i) (v := v) (by simpa using hv)
      rw [hv'] at hx
      refine wpAny_mono (turn b t I oI C oC D m₂ ys h tk E' (List.mem_of_getElem? hk) hC hx F N off ne) (fun y s₂ hq => ?_) fun _ _ e => e
      obtain ⟨t', h', tk', hy', e, F', N'⟩ := hq
      refine ⟨h', tk', news, e, F', N', off, hS, ?_⟩
      rw [hy']
      refine ih (i + 1) _ (by omega) ?_
      rw [List.take_add_one, hk]
      have := IntsAre.append hy (.cons (b.size : Int) t' .nil)
      simpa [lensOf] using this
  exact key _ 0 [] (by omega) (by simp only [List.take_zero, lensOf, List.map_nil]; exact .nil)
theorem lensOf_len {bs : List (Array UInt8)} : (lensOf bs).length = bs.length := by simp [lensOf]
theorem lensOf_le {bs : List (Array UInt8)} {Z : Nat} (h : ∀ b ∈ bs, b.size ≤ Z) : ∀ k ∈ lensOf bs, k ≤ (Z : Int) := fun k hk => by
  obtain ⟨b, hb, rfl⟩ := List.mem_map.mp hk
  have := h b hb
  omega
end
section
variable {w : World} {p : Program} {loose : List Str} {mean : ExcName → Option Value} {mg mb : Str → Option Value}
    {dp un : Nat} {gd : Option (List Code)} {outer : List Env} {env : Env} {base h₀ : Heap} {L : Addr} {m : Str → Option Value} {news : List (Addr × Obj)} {s : Shared} {Q E : Value → Shared → Prop}
theorem joined_ok {a : Addr} {vs : List Value} {bs : List (Array UInt8)} {n : Nat} {b : Array UInt8} (hr : joinRd bs = .ok b)
    (B : Below (Ar dp un gd outer) base outer h₀) (F : Fr h₀ L s.heap m) (N : News h₀ L s.heap news) (X : (Mine.pre.heap_1 w.params).In base) (T : Top p loose mean mg mb base) (hf : env.frame = some L) (hke : env.scope.kind = .function)
    (ma : (a, W.listOf vs.toArray n) ∈ news) (hb : BytesAre vs bs) (hbz : ∀ b ∈ bs, b.size ≤ 1000) (hbl : bs.length ≤ 300) (hd : dp + 41 < recursionLimit) (hu : un + 203 < cLine)
    (hret : ∀ (t : Tok) (h' : Heap) (tk' : Nat), Fr h₀ L h' m → News h₀ L h' news → Q (.bytes b t) { s with heap := h', toks := tk' }) :
    wpAny (model PySem.Challenge.rw_ok0139_01.row.prog w) ((Ar dp un gd outer).deeper env) (call (.ref 73) [.ref a]) Q E s :=
  joined_line B F N X T hf hke ma hb hbz hbl hd hu (fun h' tk' e => by rw [hr] at e; cases e) (fun b' t h' tk' e F' N' => by rw [hr] at e; cases e; exact hret t h' tk' F' N') (fun _ _ _ e => by rw [hr] at e; cases e)
end
theorem parted_facts {zn M : Nat} {mo : Int} (hzn : zn = 0 ∨ zn = 255 ∨ zn = 256) (hpn : PartedN (upTo zn).size mo M) (hM : M ≤ 255) :
    ∃ mn : Nat, mo = (mn : Int) ∧ 1 ≤ mn ∧ mn ≤ 65519 ∧ zn ≤ 255 * mn ∧ 1 ≤ M ∧ (upTo zn).size ≤ M * mn ∧ (if -(Int.fdiv (-(zn : Int)) (mn : Int)) > 1 then -(Int.fdiv (-(zn : Int)) (mn : Int)) else 1) = (M : Int) := by
  unfold PartedN at hpn
  rw [upTo_size] at hpn ⊢
  rcases hpn with ⟨rfl, rfl⟩ | ⟨rfl, rfl⟩
  · refine ⟨1, rfl, by omega, by omega, by omega, by omega, by omega, ?_⟩
    rcases hzn with rfl | rfl | rfl
    · decide
    · decide
    · omega
  · refine ⟨65519, rfl, by omega, by omega, by omega, by omega, by omega, ?_⟩
    rcases hzn with rfl | rfl | rfl <;> decide
theorem part_lens {zn M mn : Nat} : ∀ k ∈ lensOf (partsOf (upTo zn) (mn : Int) (M : Int) M), k ≤ ((14 + mn : Nat) : Int) := lensOf_le parts_sizes
theorem part_small {zn M : Nat} {mo : Int} (h : zn ≤ 256) : ∀ b ∈ partsOf (upTo zn) mo (M : Int) M, b.size ≤ 1000 := fun b hb => by
  have := parts_sizesP b hb
  rw [upTo_size] at this
  omega

theorem lay_89 : True := by
  k_with "call ref" => (k_here; (with_reducible show wpAny _ _ (call (Value.ref 221) _) _ _ _); k_dflt (first | (refine' due_none (by assumption) ?B₉ ?F₉ ?N₉ ?X₉ ?T₉ ?hf₉ ?hke₉ ?hd₉ ?hu₉ ?hb₉ ?_; walk_at "zA"; (case hb₉ => assumption); walk_at "zD"; intro h'₉ tk'₉ F'₉ N'₉; (try k_sweep)) | (refine' due_bad (by assumption) ?B₉ ?F₉ ?N₉ ?X₉ ?T₉ ?hf₉ ?hke₉ ?hd₉ ?hu₉ ?hb₉ ?_; walk_at "zA"; (case hb₉ => assumption); walk_at "zD"; intro t'₉ h'₉ tk'₉ F'₉ N'₉; (try k_sweep)) | (refine' due_row (by assumption) ?B₉ ?F₉ ?N₉ ?X₉ ?T₉ ?hf₉ ?hke₉ ?hd₉ ?hu₉ ?hb₉ ?_; walk_at "zA"; (case hb₉ => assumption); walk_at "zD"; intro a'₉ u0'₉ u1'₉ u2'₉ u3'₉ u4'₉ h'₉ tk'₉ ne'₉ F'₉ N'₉; (try k_sweep))))
  k_with "call ref" => (k_here; (with_reducible show wpAny _ _ (call (Value.ref 233) _) _ _ _); k_dflt (first | (refine' pdue_none (by assumption) ?B₉ ?F₉ ?N₉ ?X₉ ?T₉ ?hf₉ ?hke₉ ?ma₉ ?hb₉ ?hbz₉ ?hbl₉ ?hd₉ ?hu₉ ?_; walk_at "zA"; (case ma₉ => k_mem); (case hb₉ => assumption); (case hbz₉ => assumption); (case hbl₉ => omega); walk_at "zD"; intro h'₉ tk'₉ F'₉ N'₉; (try k_sweep)) | (refine' pdue_bad (by assumption) ?B₉ ?F₉ ?N₉ ?X₉ ?T₉ ?hf₉ ?hke₉ ?ma₉ ?hb₉ ?hbz₉ ?hbl₉ ?hd₉ ?hu₉ ?_; walk_at "zA"; (case ma₉ => k_mem); (case hb₉ => assumption); (case hbz₉ => assumption); (case hbl₉ => omega); walk_at "zD"; intro t'₉ h'₉ tk'₉ F'₉ N'₉; (try k_sweep)) | (refine' pdue_ok (by assumption) ?B₉ ?F₉ ?N₉ ?X₉ ?T₉ ?hf₉ ?hke₉ ?ma₉ ?hb₉ ?hbz₉ ?hbl₉ ?hd₉ ?hu₉ ?_; walk_at "zA"; (case ma₉ => k_mem); (case hb₉ => assumption); (case hbz₉ => assumption); (case hbl₉ => omega); walk_at "zD"; intro t'₉ h'₉ tk'₉ F'₉ N'₉; (try k_sweep))))
  k_with "compareOp NotEq ref ref" => (k_here; (with_reducible show wpAny _ _ (compareOp CmpOp.NotEq (Value.ref _) (Value.ref _)) _ _ _); k_dflt (refine' row_ne ?a₉ ?b₉ ?u₉ ?_; (case a₉ => exact ⟨_, News.get (by k_asm) (by k_mem), rfl, _, rfl⟩); (case b₉ => exact ⟨_, News.get (by k_asm) (by k_mem), rfl, _, rfl⟩); (case u₉ => k_units); k_whole))
  k_with "subscriptTail" => (k_here; (with_reducible show wpAny _ _ (subscriptTail _ _ (Value.ref _) (Value.int _ _)) _ _ _); k_dflt (first | (refine' item_menu MostP ?N₉ ?m₉ ?w₉ ?h0₉ ?h1₉ ?h2₉ ?_; (case N₉ => k_asm); (case m₉ => k_mem); (case w₉ => (intro v hv; simp only [List.mem_cons, List.not_mem_nil, or_false] at hv; rcases hv with e | e | e | e <;> exact ⟨_, _, e, by unfold MostP; omega⟩)); (case h0₉ => assumption); (case h1₉ => assumption); (case h2₉ => omega); intro mo'₉ mot'₉ hmo'₉) | (refine' item_menu SizeP ?N₉ ?m₉ ?w₉ ?h0₉ ?h1₉ ?h2₉ ?_; (case N₉ => k_asm); (case m₉ => k_mem); (case w₉ => (intro v hv; simp only [List.mem_cons, List.not_mem_nil, or_false] at hv; rcases hv with e | e | e <;> exact ⟨_, _, e, by unfold SizeP; omega⟩)); (case h0₉ => assumption); (case h1₉ => assumption); (case h2₉ => omega); intro sz'₉ szt'₉ hsz'₉)))
  k_with "call type:bytes" => (k_here; (with_reducible show wpAny _ _ (call (Value.type "bytes") [Value.ref _]) _ _ _); k_dflt (refine' brange_line ?F₉ ?N₉ ?r₉ ?n₉ ?h₉ ?_; (case F₉ => k_asm); (case N₉ => k_asm); (case r₉ => assumption); (case n₉ => omega); (case h₉ => exact rfl)); intro h'₉ t'₉ k'₉ F'₉ N'₉; (try k_sweep))
  trivial

theorem none_raised (a : List WData) (c : ExcName) : PySem.Challenge.rw_ok0139_01.row.claim.raises a c = false := by rfl
theorem post_true (a : List WData) : PySem.Challenge.rw_ok0139_01.row.claim.post a (WData.bool true) a = true := by
  exact postW_of (by wrow_shape) (by wtm_val) (by w_fin)
theorem Fr.under {base g h : Heap} {L : Addr} {m : Str → Option Value} (k : base.StaysIn g) (hL : base.objs.size ≤ L) (F : Fr g L h m) : Fr base L h m := ⟨F.ns, fun b o e => F.keep b o (k b o e), hL⟩
theorem pick_news {h₁ h' : Heap} {L src : Addr} {x1 x2 x3 c4 c3 c2 c1 t5 t6 z z5 : Addr × Obj} (Nf : ∀ news' : List (Addr × Obj), (∀ q ∈ news', (q ∈ [x1, x2, x3, c4, c3, c2, c1, t5, t6] ∧ @Ne Nat q.1 src ∧ @Ne Nat q.1 195) ∨ q = z ∨ q = z5) → News h₁ L h' news')
    (e4 : @Ne Nat c4.1 src ∧ @Ne Nat c4.1 195) (e3 : @Ne Nat c3.1 src ∧ @Ne Nat c3.1 195) (e2 : @Ne Nat c2.1 src ∧ @Ne Nat c2.1 195) (e1 : @Ne Nat c1.1 src ∧ @Ne Nat c1.1 195) (e6 : @Ne Nat t6.1 src ∧ @Ne Nat t6.1 195) :
    News h₁ L h' [z, c4, c3, c2, c1, z5, t6] := Nf _ fun q hq => by
  simp only [List.mem_cons, List.not_mem_nil, or_false] at hq
  rcases hq with rfl | rfl | rfl | rfl | rfl | rfl | rfl
  · exact .inr (.inl rfl)
  · exact .inl ⟨by simp, e4⟩
  · exact .inl ⟨by simp, e3⟩
  · exact .inl ⟨by simp, e2⟩
  · exact .inl ⟨by simp, e1⟩
  · exact .inr (.inr rfl)
  · exact .inl ⟨by simp, e6⟩
theorem row_off {news : List (Addr × Obj)} {x dx : Addr} {ox od : Obj} (hne : ∀ q ∈ news, q.1 ≠ x ∧ q.1 ≠ dx) : ∀ q ∈ [(x, ox), (dx, od)], ∀ z ∈ news, z.1 ≠ q.1 := fun q hq z hz => by
  rcases List.mem_cons.mp hq with rfl | hq
  · exact (hne z hz).1
  · cases List.mem_singleton.mp hq; exact (hne z hz).2
/-- a statement's end: the ledger lst stands over a turned ground, the name nm is forgotten -/
def Kept (A₀ : Around) (base : Heap) (outer : List Env) (L : Addr) (nm : Str) (m : Str → Option Value) (lst : List (Addr × Obj)) (s s' : Shared) : Prop :=
  ∃ (h₁ h' : Heap) (tk : Nat) (u : Option Value), s' = { s with heap := h', toks := tk } ∧ Below A₀ base outer h₁ ∧ Fr h₁ L h' (fun y => if y = nm then u else m y) ∧ News h₁ L h' lst
theorem Kept.intro {A₀ : Around} {base h₁ h' : Heap} {outer : List Env} {L : Addr} {nm : Str} {m m' : Str → Option Value} {lst all : List (Addr × Obj)} {s : Shared} {tk : Nat} (B : Below A₀ base outer h₁) (F : Fr h₁ L h' m') (hm : ∀ y, y ≠ nm → m' y = m y) (N : News h₁ L h' all) (hs : ∀ q ∈ lst, q ∈ all) :
    Kept A₀ base outer L nm m lst s { s with heap := h', toks := tk } := ⟨h₁, h', tk, m' nm, rfl, B, by
  have e : m' = fun y => if y = nm then m' nm else m y := by
    funext y
    by_cases h : y = nm
    · simp [h]
    · simp [h, hm y h]
  rw [← e]; exact F, fun q hq => N q (hs q hq)⟩
theorem block_told {M : Model} {A A₀ : Around} {base h₀ : Heap} {outer : List Env} {E : Value → Shared → Prop} {env : Env} {S1 S2 : Stmt} {rest : List Stmt} {Q : Flow → Shared → Prop} {s : Shared} {L P : Addr} {m : Str → Option Value} (nm : Str) {x1 x2 x3 x4 x5 x6 : Addr × Obj} {ps : Array Value} (la ca : Int)
    (_B : Below A₀ base outer h₀) (F : Fr h₀ L s.heap m) (N : News h₀ L s.heap [x1, x2, x3, x4, x5, x6, (P, tabObj ps)])
    (h1 : wpAny M A (exec S1 env) (fun fl s1 => fl = .next ∧ wpAny M A (exec S2 env) (fun fl2 s2 => fl2 = .next ∧ ∃ cc : Addr, Kept A₀ base outer L nm m [x1, x2, x3, x4, x5, x6, (P, tabObj (ps ++ #[rawInt la, rawInt ca, .ref cc]))] s s2) E s1) E s)
    (h2 : ∀ (h₁ h' : Heap) (tk : Nat) (u : Option Value) (cc : Addr), Below A₀ base outer h₁ → Fr h₁ L h' (fun y => if y = nm then u else m y) → News h₁ L h' [x1, x2, x3, x4, x5, x6, (P, tabObj (ps ++ #[rawInt la, rawInt ca, .ref cc]))] → wpAny M A (execs rest env) Q E { s with heap := h', toks := tk }) :
    wpAny M A (execs (S1 :: S2 :: rest) env) Q E s := by
  refine wpAny_execs_cons (wpAny_mono h1 (fun fl s1 h => ?_) fun _ _ x => x)
  obtain ⟨rfl, h⟩ := h
  refine wpAny_execs_cons (wpAny_mono h (fun fl s2 h => ?_) fun _ _ x => x)
  obtain ⟨rfl, h⟩ := h
  obtain ⟨cc, h₁, h', tk, u, rfl, B, F', N'⟩ := h
  exact h2 h₁ h' tk u cc B F' N'
theorem block_join {M : Model} {A A₀ : Around} {base h₀ : Heap} {outer : List Env} {E : Value → Shared → Prop} {env : Env} {S1 : Stmt} {rest : List Stmt} {Q : Flow → Shared → Prop} {s : Shared} {L P : Addr} {m : Str → Option Value} (nm : Str) {x0 x1 x2 x3 x4 x5 x6 : Addr × Obj} {ps : Array Value} (la ca : Int)
    (_B : Below A₀ base outer h₀) (F : Fr h₀ L s.heap m) (N : News h₀ L s.heap [x0, x1, x2, x3, x4, x5, x6, (P, tabObj ps)])
    (h1 : wpAny M A (exec S1 env) (fun fl s1 => fl = .next ∧ ∃ cc : Addr, Kept A₀ base outer L nm m [x1, x2, x3, x4, x5, x6, (P, tabObj (ps ++ #[rawInt la, rawInt ca, .ref cc]))] s s1) E s)
    (h2 : ∀ (h₁ h' : Heap) (tk : Nat) (u : Option Value) (cc : Addr), Below A₀ base outer h₁ → Fr h₁ L h' (fun y => if y = nm then u else m y) → News h₁ L h' [x1, x2, x3, x4, x5, x6, (P, tabObj (ps ++ #[rawInt la, rawInt ca, .ref cc]))] → wpAny M A (execs rest env) Q E { s with heap := h', toks := tk }) :
    wpAny M A (execs (S1 :: rest) env) Q E s := by
  refine wpAny_execs_cons (wpAny_mono h1 (fun fl s1 h => ?_) fun _ _ x => x)
  obtain ⟨rfl, h⟩ := h
  obtain ⟨cc, h₁, h', tk, u, rfl, B, F', N'⟩ := h
  exact h2 h₁ h' tk u cc B F' N'
section
theorem lay_90_0 : True := by
  k_with "GrownAll" => (k_dflt (refine ⟨GrownAt.of (by k_asm) (by k_mem), GrownAt.of (by k_asm) (by k_mem), True.intro⟩))
  k_with "call builtin:max" => (k_here; (with_reducible show wpAny _ _ (call (Value.builtin "max") [Value.ref _]) _ _ _); k_dflt (refine' kso_max ?k1₉ ?k2₉ ?k3₉ ?k4₉ ?k5₉ ?k6₉ ?_; (case k1₉ => k_asm); (case k2₉ => k_asm); (case k4₉ => assumption); (case k3₉ => exact kso_isList (by k_asm) (by k_mem) rfl); (case k5₉ => assumption); (case k6₉ => exact rfl)); intro h'₉ M'₉ t'₉ k'₉ F'₉ N'₉ a'₉ b'₉; (have hmx := (by assumption : ∀ k ∈ lensOf _, k ≤ ((14 + _ : Nat) : Int)) _ a'₉); clear a'₉ b'₉; (try k_sweep))
  k_with "call ref" => (k_here; (with_reducible show wpAny _ _ (call (Value.ref 73) _) _ _ _); k_dflt (refine' joined_ok (by assumption) ?B₉ ?F₉ ?N₉ ?X₉ ?T₉ ?hf₉ ?hke₉ ?ma₉ ?hb₉ ?hbz₉ ?hbl₉ ?hd₉ ?hu₉ ?_; walk_at "zA"; (case ma₉ => k_mem); (case hb₉ => assumption); (case hbz₉ => assumption); (case hbl₉ => omega); walk_at "zD"); intro jt'₉ h'₉ tk'₉ F'₉ N'₉; (try k_sweep))
  k_with "execs cons" => (k_here; (with_reducible show wpAny _ _ (execs (Stmt.Assign [Expr.Name (Str.ofString "told") _] _ _ :: _ :: _) _) _ _ _); refine Hold.of ?_)
  k_with "execs cons" => (k_here; (with_reducible show wpAny _ _ (execs (Stmt.If (Expr.Compare (Expr.Call _ _ _ _) [CmpOp.NotEq] [Expr.Call _ _ _ _] _) _ _ _ :: _) _) _ _ _); refine Hold.of ?_)
  trivial
theorem callerA_eq : callerA = Ar (1 + claimMargin) 4 (some []) [] := rfl
theorem caller_room : (1 + claimMargin) + 300 < recursionLimit := by decide +kernel
theorem caller_units : 4 + 600 < cLine := by unfold cLine; decide
theorem one_off {news : List (Addr × Obj)} {r : Addr} {o : Obj} (hne : ∀ q ∈ news, q.1 ≠ r) : ∀ q ∈ [(r, o)], ∀ z ∈ news, z.1 ≠ q.1 := fun q hq z hz => by
  cases List.mem_singleton.mp hq; exact hne z hz
local macro_rules | `(tactic| o_head (kmHook $_ $as $_ $ts)) => `(tactic| o_head ((kmHook Mine.pre.heap_1 $as (fun _ => by kernel_rfl) $ts)))
/- names of my own that stand where the head's twins would be laid: the head then goes without those twins (they make the compiled file too large) -/
noncomputable def law.tw11539556534233449701 : Nat := 0
noncomputable def law.tw15086660358963478975 : Nat := 0
noncomputable def law.tw8393808627357018136 : Nat := 0
noncomputable def law.tw2424153664038285962 : Nat := 0
noncomputable def law.tw15303594855347692353 : Nat := 0
noncomputable def law.tw11251629983318097711 : Nat := 0
noncomputable def law.tw15284937413677598851 : Nat := 0
noncomputable def law.tw3386687595832506897 : Nat := 0
noncomputable def law.tw14482024866935577350 : Nat := 0
noncomputable def law.tw5646094188634506767 : Nat := 0
noncomputable def law.tw5759119513877862361 : Nat := 0
noncomputable def law.tw17180186633401351929 : Nat := 0
noncomputable def law.tw1173056557569260014 : Nat := 0
noncomputable def law.tw273538059161497516 : Nat := 0
noncomputable def law.tw16127396978525395202 : Nat := 0
noncomputable def law.tw16969368358214040724 : Nat := 0
noncomputable def law.tw1900324959677325778 : Nat := 0
noncomputable def law.tw5868112110852410236 : Nat := 0
noncomputable def law.tw1009701086978419249 : Nat := 0
noncomputable def law.tw14708469453074290282 : Nat := 0
noncomputable def law.tw14831383725187164143 : Nat := 0
noncomputable def law.tw3022312534896902172 : Nat := 0
noncomputable def law.tw12493615336969742014 : Nat := 0
noncomputable def law.tw9549881006879880859 : Nat := 0
noncomputable def law.tw4327623514102990693 : Nat := 0
noncomputable def law.tw12471144291089424557 : Nat := 0
noncomputable def law.tw3369179463843577602 : Nat := 0
noncomputable def law.tw10343620613306851896 : Nat := 0
noncomputable def law.tw8724380502384027866 : Nat := 0
noncomputable def law.tw10739836229700673485 : Nat := 0
noncomputable def law.tw14325307061458958174 : Nat := 0
noncomputable def law.tw4194663440844013013 : Nat := 0
noncomputable def law.tw3272815010394513277 : Nat := 0
noncomputable def law.tw17084091479934422900 : Nat := 0
noncomputable def law.tw13749054020404154894 : Nat := 0
noncomputable def law.tw7974842139376466880 : Nat := 0
noncomputable def law.tw14576799054823838208 : Nat := 0
noncomputable def law.tw1203716257701319383 : Nat := 0
noncomputable def law.tw10175032002033253018 : Nat := 0
noncomputable def law.tw9383713532851269502 : Nat := 0
noncomputable def law.tw14848663850042179269 : Nat := 0
noncomputable def law.tw7125311364333075395 : Nat := 0
noncomputable def law.tw6277695593091390052 : Nat := 0
noncomputable def law.tw4374311865265045770 : Nat := 0
noncomputable def law.tw15712179433548234360 : Nat := 0
noncomputable def law.tw16173505291465673776 : Nat := 0
noncomputable def law.tw8400330649371614963 : Nat := 0
noncomputable def law.tw102369953223478417 : Nat := 0
noncomputable def law.tw6636046092353448235 : Nat := 0
noncomputable def law.tw234088651831972884 : Nat := 0
noncomputable def law.tw5102775395078137802 : Nat := 0
noncomputable def law.tw138574305562521906 : Nat := 0
noncomputable def law.tw8379801371077579658 : Nat := 0
noncomputable def law.tw4908517660498442698 : Nat := 0
noncomputable def law.tw9705406087231273881 : Nat := 0
noncomputable def law.tw16176092079185841447 : Nat := 0
noncomputable def law.tw14035150605665280278 : Nat := 0
noncomputable def law.tw9035912170408793244 : Nat := 0
noncomputable def law.tw127317143326429855 : Nat := 0
noncomputable def law.tw3626631501046058187 : Nat := 0
noncomputable def law.tw11522750334253289022 : Nat := 0
noncomputable def law.tw12674282577319284049 : Nat := 0
noncomputable def law.tw6519122298890219348 : Nat := 0
noncomputable def law.tw11444997793602299991 : Nat := 0
noncomputable def law.tw17289018086036417837 : Nat := 0
noncomputable def law.tw8319792697340206452 : Nat := 0
noncomputable def law.tw16585132557245215809 : Nat := 0
noncomputable def law.tw2030965984702790068 : Nat := 0
noncomputable def law.tw5995636244603389501 : Nat := 0
noncomputable def law.tw12409729927284601452 : Nat := 0
noncomputable def law.tw16653298701519530459 : Nat := 0
noncomputable def law.tw16686367200484181685 : Nat := 0
noncomputable def law.tw10047779025188342691 : Nat := 0
noncomputable def law.tw13478563133243941227 : Nat := 0
noncomputable def law.tw13483101245441255321 : Nat := 0
noncomputable def law.tw10247290731634373033 : Nat := 0
noncomputable def law.tw3886675843612926803 : Nat := 0
noncomputable def law.tw9710088225557845874 : Nat := 0
noncomputable def law.tw17383301986935559125 : Nat := 0
noncomputable def law.tw11013384265288417636 : Nat := 0
noncomputable def law.tw3354418783263562886 : Nat := 0
noncomputable def law.tw2070672184697497193 : Nat := 0
noncomputable def law.tw6944951937206755967 : Nat := 0
noncomputable def law.tw17865747701858748339 : Nat := 0
noncomputable def law.tw6981911342545965932 : Nat := 0
noncomputable def law.tw12770879722433261261 : Nat := 0
noncomputable def law.tw10426067975794604667 : Nat := 0
noncomputable def law.tw6446545568877546841 : Nat := 0
noncomputable def law.tw9641771715135223730 : Nat := 0
noncomputable def law.tw6152378112859876241 : Nat := 0
noncomputable def law.tw7990135326770990556 : Nat := 0
noncomputable def law.tw11677494256100043861 : Nat := 0
noncomputable def law.tw16005900618382996980 : Nat := 0
set_option Elab.async true in
theorem law : PySem.Challenge.rw_ok0139_01.Holds := by
  w_on; o_law; k_head; (case hw => w_witness2)
  w_strict (
    k_go0
    (all_goals try k_fold)
    rename Below callerA _ _ _ => KA
    have hdp := caller_room
    have hun := caller_units
    rw [callerA_eq] at KA ⊢
    generalize 1 + claimMargin = dp at KA hdp ⊢
    rename Top _ _ _ _ _ (ghostOf _ _) => TG
    rename Frag.In _ (ghostOf _ _) => XG
    (with_reducible show wpAny _ _ _ _ _ _)
    k_fold
    k_steps
    rename Fr _ _ _ _ => F0
    have hLa := F0.above
    unfold Hold
    k_dflt (refine' right_line ?B₉ ?F₉ ?N₉ ?X₉ ?T₉ rfl rfl ?C₉ ?ms₉ ?mx₉ ?mdx₉ ?mt₉ ?hxd₉ ?hts₉ ?hsd₉ ?hd₉ ?hu₉ ?kk₉ ?P₉ ?O₉ ?dm₉ ?_; (case B₉ => k_asm); (case F₉ => k_asm); (case N₉ => k_asm); (case X₉ => k_asm); (case T₉ => k_asm); (case C₉ => assumption); (case ms₉ => k_mem); (case mx₉ => k_mem); (case mdx₉ => k_mem); (case mt₉ => k_mem); (case hxd₉ => assumption); (case hts₉ => exact ⟨by walk_at "zN", by walk_at "zN", by walk_at "zN"⟩); (case hsd₉ => assumption); (case hd₉ => omega); (case hu₉ => omega); (case kk₉ => assumption); (case P₉ => assumption); (case O₉ => assumption); (case dm₉ => assumption))
    intro R₂ ps₂ h₁ h₂ tk₂ T₁ B₁ F₁ Nf
    have N₁ := pick_news Nf (by constructor <;> (try dsimp only) <;> walk_at "zN") (by constructor <;> (try dsimp only) <;> walk_at "zN") (by constructor <;> (try dsimp only) <;> walk_at "zN") (by constructor <;> (try dsimp only) <;> walk_at "zN") (by constructor <;> (try dsimp only) <;> walk_at "zN")
    clear Nf
    have X₁ := XG.keeps B₁.stays
    have TP₁ := TG.keeps B₁.stays
    k_sweep
    k_steps
    rename World => w0
    rename Array UInt8 => pb
    rename Fr h₁ _ _ _ => Fa
    rename News h₁ _ _ _ => Na
    unfold Hold
    refine' block_told "told" 228 23 B₁ Fa Na ?h1₉ ?h2₉
    case h1₉ =>
      k_steps
      unfold Hold; k_dflt (refine' result_line (Pv := ReadPv w0 pb) (Pr := readRd pb = .bad) ?B₉ ?F₉ ?N₉ ?X₉ ?T₉ ?hf₉ ?hke₉ ?fn₉ ?hd₉ ?hu₉ ?deed₉ ?_ ?_; (case hf₉ => exact rfl); (case hke₉ => exact rfl); (case B₉ => k_asm); (case F₉ => k_asm); (case N₉ => k_asm); (case X₉ => k_asm); (case T₉ => k_asm); (case fn₉ => exact FnAt.of (by k_asm) (by k_mem)); (case hd₉ => first | walk_at "zR" | omega | k_room); (case hu₉ => first | walk_at "zR" | omega | k_units); k_whole)
      case deed₉ =>
        k_dflt (refine' lam_deed ?B₉ ?N₉ ?X₉ ?T₉ ?hf₉ ?fm₉ ?cd₉ ?hd₉ ?hb₉ ?hl₉ ?co₉ ?hg₉ ?hk₉ ?hc₉ ?_; (case B₉ => k_asm); (case N₉ => k_asm); (case X₉ => k_asm); (case T₉ => k_asm); (case hf₉ => exact rfl); (case fm₉ => k_mem); (case cd₉ => exact codeRec_news (by k_asm) (by k_mem) (by assumption) (by assumption)); (case hd₉ => omega); (case hb₉ => exact rfl); (case hl₉ => exact locs rfl); (case co₉ => exact rfl); (case hg₉ => exact rfl); (case hk₉ => exact rfl); (case hc₉ => decide); k_whole)
        intro env₂ g₂ L₂ h₃ tk₃ Q₂ E₂ F₂ N₂ B₂ X₂ T₂ l₂ hr₂ hrx₂ hz₂
        (try dsimp only); (try k_fold)
        k_steps
        all_goals (try dsimp only)
        all_goals first
          | exact hr₂ _ _ _ _ (.inl ⟨rfl, rfl, by assumption⟩) (by assumption) (by assumption)
          | exact hz₂ _ _ _ (by assumption) (by assumption)
          | skip
        all_goals (k_dflt (refine' hrx₂ _ [_, _] _ _ _ (.inr ⟨_, _, _, _, _, _, _, _, _, _, _, _, _, _, _, _, _, rfl, rfl, ?zr₉, ?zl₉⟩) ?zF₉ ?zN₉ ?zo₉; (case zN₉ => assumption); (case zF₉ => assumption); (case zr₉ => assumption); (case zl₉ => assumption); (case zo₉ => exact row_off (by assumption))))

      · rintro v nx h' tk' (⟨rfl, rfl, hrd⟩ | ⟨x, dx, k, wd, ht, P, O, u0, u1, u2, u3, u4, t1, t2, t3, t4, t5, rfl, rfl, hrd, hlt⟩) hne Nx F' N'
        · clear hne Nx
          k_steps
          all_goals first | exact True.intro | exact Kept.intro (by assumption) (by assumption) (fun y hy => if_neg hy) (by assumption) (by kcf_all)
        · replace N' := news_app Nx N'
          simp only [List.cons_append, List.nil_append] at N'
          clear hne Nx
          k_steps
          all_goals first | exact True.intro | exact Kept.intro (by assumption) (by assumption) (fun y hy => if_neg hy) (by assumption) (by kcf_all)
      · intro t h₁' h' tk' hrd T₁' B' X' T' F' N'
        k_steps
        all_goals first | exact True.intro | exact Kept.intro (by assumption) (by assumption) (fun y hy => if_neg hy) (by assumption) (by kcf_all)
    case h2₉ =>
      intro h₅ h₆ tk₆ u₆ cc B₆ F₆ N₆
      have X₆ := XG.keeps B₆.stays
      have TP₆ := TG.keeps B₆.stays
      (try clear Fa); (try clear Na); (try clear F₁); (try clear N₁)
      k_sweep
      k_steps
      rename Fr h₅ _ _ _ => Fb
      rename News h₅ _ _ _ => Nb
      rename List (Array UInt8) => bs0
      unfold Hold
      refine' block_join "told" 232 19 B₆ Fb Nb ?h1₉ ?h2₉
      case h1₉ =>
        refine wpAny_If ?_
        k_steps
        unfold Hold; k_dflt (refine' result_line (Pv := JoinPv bs0) (Pr := joinRd bs0 = .bad) ?B₉ ?F₉ ?N₉ ?X₉ ?T₉ ?hf₉ ?hke₉ ?fn₉ ?hd₉ ?hu₉ ?deed₉ ?_ ?_; (case hf₉ => exact rfl); (case hke₉ => exact rfl); (case B₉ => k_asm); (case F₉ => k_asm); (case N₉ => k_asm); (case X₉ => k_asm); (case T₉ => k_asm); (case fn₉ => exact FnAt.of (by k_asm) (by k_mem)); (case hd₉ => first | walk_at "zR" | omega | k_room); (case hu₉ => first | walk_at "zR" | omega | k_units); k_whole)
        case deed₉ =>
          k_dflt (refine' lam_deed ?B₉ ?N₉ ?X₉ ?T₉ ?hf₉ ?fm₉ ?cd₉ ?hd₉ ?hb₉ ?hl₉ ?co₉ ?hg₉ ?hk₉ ?hc₉ ?_; (case B₉ => k_asm); (case N₉ => k_asm); (case X₉ => k_asm); (case T₉ => k_asm); (case hf₉ => exact rfl); (case fm₉ => k_mem); (case cd₉ => exact codeRec_news (by k_asm) (by k_mem) (by assumption) (by assumption)); (case hd₉ => omega); (case hb₉ => exact rfl); (case hl₉ => exact locs rfl); (case co₉ => exact rfl); (case hg₉ => exact rfl); (case hk₉ => exact rfl); (case hc₉ => decide); k_whole)
          intro env₂ g₂ L₂ h₃ tk₃ Q₂ E₂ F₂ N₂ B₂ X₂ T₂ l₂ hr₂ hrx₂ hz₂
          (try dsimp only); (try k_fold)
          k_steps
          all_goals (try dsimp only)
          all_goals first
            | exact hr₂ _ _ _ _ (.inl ⟨rfl, rfl, by assumption⟩) (by assumption) (by assumption)
            | exact hr₂ _ _ _ _ (.inr ⟨_, _, rfl, rfl, by assumption⟩) (by assumption) (by assumption)
            | exact hz₂ _ _ _ (by assumption) (by assumption)
        · rintro v nx h' tk' (⟨rfl, rfl, hrd⟩ | ⟨jb, jt, rfl, rfl, hrd⟩) hne Nx F' N'
          · clear hne Nx
            k_steps
            all_goals first | exact True.intro | exact Kept.intro (by assumption) (by assumption) (fun y hy => if_neg hy) (by assumption) (by kcf_all) | exact Kept.intro (by assumption) (by assumption) (fun y hy => rfl) (by assumption) (by kcf_all) | (exfalso; rename (_ != _) = true => hx; simp at hx; done)
          · clear hne Nx
            k_steps
            all_goals first | exact True.intro | exact Kept.intro (by assumption) (by assumption) (fun y hy => if_neg hy) (by assumption) (by kcf_all) | exact Kept.intro (by assumption) (by assumption) (fun y hy => rfl) (by assumption) (by kcf_all) | (exfalso; rename (_ != _) = true => hx; simp at hx; done)
        · intro t h₁' h' tk' hrd T₁' B' X' T' F' N'
          k_steps
          all_goals first | exact True.intro | exact Kept.intro (by assumption) (by assumption) (fun y hy => if_neg hy) (by assumption) (by kcf_all) | exact Kept.intro (by assumption) (by assumption) (fun y hy => rfl) (by assumption) (by kcf_all) | (exfalso; rename (_ != _) = true => hx; simp at hx; done)
      case h2₉ =>
        intro h₇ h₈ tk₈ u₈ cd B₈ F₈ N₈
        have X₈ := XG.keeps B₈.stays
        have TP₈ := TG.keeps B₈.stays
        (try clear Fb); (try clear Nb); (try clear F₆); (try clear N₆)
        k_sweep
        k_steps
        rename MostP _ => hmo
        rename SizeP _ => hszp
        obtain ⟨zn, rfl, hzn⟩ := hszp.nat
        have hzz : (upTo zn).size ≤ 256 := by rw [upTo_size]; omega
        obtain ⟨mo, hme, hmo2⟩ := hmo.gen
        subst hme
        unfold MostP at hmo hmo2
        unfold Hold; k_dflt (refine' result_line (Pv := PartPv (upTo zn) mo) (Pr := PartPr (upTo zn) mo) ?B₉ ?F₉ ?N₉ ?X₉ ?T₉ ?hf₉ ?hke₉ ?fn₉ ?hd₉ ?hu₉ ?deed₉ ?_ ?_; (case hf₉ => exact rfl); (case hke₉ => exact rfl); (case B₉ => k_asm); (case F₉ => k_asm); (case N₉ => k_asm); (case X₉ => k_asm); (case T₉ => k_asm); (case fn₉ => exact FnAt.of (by k_asm) (by k_mem)); (case hd₉ => first | walk_at "zR" | omega | k_room); (case hu₉ => first | walk_at "zR" | omega | k_units); k_whole)
        case deed₉ =>
          k_dflt (refine' lam_deed ?B₉ ?N₉ ?X₉ ?T₉ ?hf₉ ?fm₉ ?cd₉ ?hd₉ ?hb₉ ?hl₉ ?co₉ ?hg₉ ?hk₉ ?hc₉ ?_; (case B₉ => k_asm); (case N₉ => k_asm); (case X₉ => k_asm); (case T₉ => k_asm); (case hf₉ => exact rfl); (case fm₉ => k_mem); (case cd₉ => exact codeRec_news (by k_asm) (by k_mem) (by assumption) (by assumption)); (case hd₉ => omega); (case hb₉ => exact rfl); (case hl₉ => exact locs rfl); (case co₉ => exact rfl); (case hg₉ => exact rfl); (case hk₉ => exact rfl); (case hc₉ => decide); k_whole)
          intro env₂ g₂ L₂ h₃ tk₃ Q₂ E₂ F₂ N₂ B₂ X₂ T₂ l₂ hr₂ hrx₂ hz₂
          (try dsimp only); (try k_fold)
          k_steps
          all_goals (try dsimp only)
          all_goals first
            | exact hz₂ _ _ _ (by assumption) (by assumption)
            | (k_dflt (refine' hrx₂ _ [_] _ _ _ ⟨_, _, _, _, rfl, rfl, ?zp₉, ?zm₉, ?zb₉⟩ ?zF₉ ?zN₉ ?zo₉; (case zN₉ => assumption); (case zF₉ => assumption); (case zb₉ => assumption); (case zp₉ => assumption); (case zm₉ => assumption); (case zo₉ => exact one_off (by assumption))))
        · rintro v nx h' tk' ⟨r, vs, M, k, rfl, rfl, hpn, hM, hb⟩ hne Nx F' N'
          replace N' := news_app Nx N'
          simp only [List.cons_append, List.nil_append] at N'
          clear hne Nx
          (repeat (rename _ ∧ _ => q; clear q))
          rename KindOk _ => q; clear q
          rename SmallOk _ _ _ _ _ → _ => q; clear q
          obtain ⟨mn, rfl, hm1, hm2, hzm, hM1, hzM, hceil⟩ := parted_facts hzn hpn hM
          have hz2 : zn ≤ 256 := by omega
          have hbz := part_small (M := M) (mo := (mn : Int)) hz2
          have hbl : (partsOf (upTo zn) (mn : Int) (M : Int) M).length = M := partsOf_len
          have hvl : vs.toArray.size = M := by rw [List.size_toArray, hb.length, hbl]
          have hls := part_lens (zn := zn) (M := M) (mn := mn)
          have hln : 0 < (lensOf (partsOf (upTo zn) (mn : Int) (M : Int) M)).length := by rw [lensOf_len, hbl]; omega
          have hjr := joined_whole (P := upTo zn) hM1 hM hzM
          clear hpn hmo hmo2 hszp hzn hzz hzM
          k_steps
          all_goals (try dsimp only)
          · exact absurd hceil.symm (by assumption)
          · rename News _ _ _ _ => N5
            unfold Hold
            refine LCg.CompSrc.ledger rfl (by assumption) N5 (by k_mem) (by rw [PySem.sizeLine_eq, hvl]; omega) ?_
            intro g₁
            refine comp_lens hb (.inr ⟨_, by k_mem, rfl, _, rfl⟩) ?_ ?_
            · intro b t I oI C oC D m₂ ys h tk E' hmem hC hx F N off ne
              have hb1 := hbz b hmem
              k_steps
              all_goals exact ElI.intro (by assumption) (by assumption)
            · intro ys hys D h tk F N off
              (try dsimp only)
              k_steps
              all_goals (try dsimp only)
              all_goals simp only [beq_self_eq_true]
              rename Fr _ _ _ _ => F9
              rename _ = #[] => hg9
              refine goodW_bool (Fr.under B₈.stays hLa F9) hg9 (none_raised _) (post_true _)
        · intro t h₁' h' tk' hpr T₁' B' X' T' F' N'
          (repeat (rename _ ∧ _ => q; clear q))
          rename KindOk _ => q; clear q
          rename SmallOk _ _ _ _ _ → _ => q; clear q
          have hz2 : (zn : Int) ≤ 256 := by omega
          unfold PartPr at hpr
          rw [upTo_size] at hpr
          clear hmo hmo2 hzz hszp hzn
          k_steps
          all_goals (try dsimp only)
          all_goals simp only [beq_self_eq_true]
          all_goals (rename Fr _ _ _ _ => F9; rename _ = #[] => hg9; refine goodW_bool (Fr.under B'.stays hLa F9) hg9 (none_raised _) (post_true _)))
end
end Mine
theorem PySem.Challenge.cw_ok0139_01_holds : PySem.Challenge.rw_ok0139_01.Holds := by
  exact Mine.law
