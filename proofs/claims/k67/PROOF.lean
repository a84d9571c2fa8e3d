import PyProof.Rows.All
import Wide.All
import OpenK.AllK
import Wide.FinOn
import HandS.ForMost
import HandS.ForExc
import HandS.Wide
import HandS.EndBits
import HandS.TupAny
import HandS.TupMul
import HandS.Deep
import HandS.DictTup
import HandS.TupLen
import HandS.Style
import HandS.TryOnly
import HandS.Flow
import HandS.Iter
import HandS.Zip
import HandS.Walk
import HandS.Comp
import HandS.IsInst
import HandS.Small
import HandS.Dict
import HandS.WordsExc
import HandS.Defaults
import HandS.ExcOwn
import KE.GoesEnum
import HandS.Head0
import HandS.Head1
import HandS.Head2
import HandS.HeadEnd
import HandS.HeadHook1
import HandS.HeadHook2
import HandS.HeadHook3
import HandS.HeadHook4
import HandS.ExcIs
import HandS.ExcField
import KE.KExcIs
import HandS.MakeKwOnly
import HandS.DictComp
import HandS.SetBool
import HandS.TupSets
import HandS.Flt
import HandS.SortInts
import HandS.SortRule
import Wide.Txt2
import HandS.SetFor
import HandS.Strs
import HandS.SetKeys
import HandS.OwnEq
import HandS.Conv
import HandS.ExcInit
import HandS.TryMany
import KE.KDictPairs
import KE.KUnpackStar
import PyProof.DictUpdate
import KE.GoesMore
import KE.GoesZip
import KE.KIndexOf
import KE.KDictSum
import HandS.ExcValue
import PyProof.TupleOfSeq
import KE.KDictKeyed
import KE.KDictCopyH
import HandS.CallLocal
import HandS.CallSlots
import HandS.HotCalls
import HandS.Text
import HandS.RaiseMore
import HandS.StrSplit
import HandS.TupLe
import PySem.Challenge.RW_softcage_k67_deeds_written_and_read
set_option Elab.async false
set_option maxRecDepth 100000
set_option maxHeartbeats 4000000
set_option autoImplicit false
set_option linter.all false
namespace PySem.W.Fast
def tw10023463303310153880:=()
def tw10193541986098949110:=()
def tw10344005456717483227:=()
def tw1049718162695835541:=()
def tw10870813059568690190:=()
def tw1103942142577250551:=()
def tw110746330627614874:=()
def tw11408996886203721307:=()
def tw11532908017461266872:=()
def tw11558470403091048994:=()
def tw11967432588213430449:=()
def tw1197095756368088581:=()
def tw12224127790256469897:=()
def tw12292167607001556555:=()
def tw12338133088756359019:=()
def tw12406564998665791029:=()
def tw12698768783962008589:=()
def tw12748500267132318485:=()
def tw12779790754823149451:=()
def tw12859435030875065618:=()
def tw13040349845027988457:=()
def tw13363233916896688830:=()
def tw13924858995233750608:=()
def tw13984010038792444301:=()
def tw14058878361882513727:=()
def tw14195834209079408410:=()
def tw14246781465651011482:=()
def tw14358887484335332163:=()
def tw14657566870479183920:=()
def tw14745092932980430482:=()
def tw15186598957892045602:=()
def tw15460084193917421339:=()
def tw15473244206371096484:=()
def tw15631781588992500343:=()
def tw1592796343948289511:=()
def tw16077948378444662380:=()
def tw16330842597931574492:=()
def tw16372450504540581646:=()
def tw16412111927114672080:=()
def tw1651576849748837894:=()
def tw16622750729243726721:=()
def tw16802506384207672261:=()
def tw16846954520790214229:=()
def tw1700353288021808907:=()
def tw17330097939492604630:=()
def tw18109686401789472034:=()
def tw18236035133599775855:=()
def tw18270812225822469776:=()
def tw1927903801582334851:=()
def tw19455034517024570:=()
def tw1979586206269833298:=()
def tw2140382307406165261:=()
def tw2490528291279028811:=()
def tw2544210527897811804:=()
def tw2674550565601731512:=()
def tw2721640209052435030:=()
def tw3094303070490575487:=()
def tw3169894170545193117:=()
def tw3358740449484425075:=()
def tw3401584517648466526:=()
def tw3818873848355314355:=()
def tw4254228352427277520:=()
def tw4372915922666908160:=()
def tw4482075883978625630:=()
def tw4494349464610601084:=()
def tw4746865090249106245:=()
def tw4800767180144457762:=()
def tw4905328053675702275:=()
def tw4906890235957570484:=()
def tw504480403553566840:=()
def tw5128065952680766769:=()
def tw5203551773041326763:=()
def tw5346432691969006801:=()
def tw5633030628030178110:=()
def tw5836157473476410448:=()
def tw6077946425640930561:=()
def tw6087957370940901967:=()
def tw6090072060264775343:=()
def tw614144614431975288:=()
def tw6497765729661676582:=()
def tw6577282763542344049:=()
def tw6659218474773015829:=()
def tw677199428105638439:=()
def tw6948615630039126110:=()
def tw7177916785299811707:=()
def tw7291647225034527313:=()
def tw7355117865781966656:=()
def tw7436542991909670530:=()
def tw7482898192631831765:=()
def tw7551119325144820128:=()
def tw7641645900070740274:=()
def tw817630476948190633:=()
def tw8362529319426758302:=()
def tw8482682855781031281:=()
def tw8641065507149433487:=()
def tw9059337654670309590:=()
def tw9202140500955728028:=()
def tw929692271179341053:=()
def tw9485471068073026691:=()
def tw9619505818509196838:=()
end PySem.W.Fast
namespace Mp
open PySem PySem.Spec PyProof.Rows L2
abbrev SV := List (Option V)
structure Gd where
 P : Program
 w : World
 K : PySem.W.Frag
 mg : Str -> Option Value
 xa : Option (Addr × Option Addr)
def xaOf : Bool -> Option Value -> List (Addr × Obj) -> Option (Addr × Option Addr)
 | false, some (.ref a), pn => some (a, (pn.lookup a).bind (·.dict))
 | _, _, _ => none
def KDic (G : Gd) (a : Addr) (kvs : List (Key × V)) : Prop :=
 (a == sysModules) = false /\ kvs.length ≤ sizeLine /\ ∃ o es ep us, G.K.lookup a = some o /\ o.ExactDict /\ o.data = .dict es ep /\ KeysOf (mixKind G.P G.w) es /\ Pairs (mixKind G.P G.w) es.toList us /\ (us.map (·.1)).Nodup /\ KV kvs us
inductive D where
 | non | bl (b : Bool) | int (i : Int) | str (x : Str)
 | tup (xs : List D) | ktp (xs : List D) | lst (xs : List D)
 | kdc (ks : List Key) (vs : List D)
 | dK (ks : List Key) (vs : List D) | dT (ks : List (List Key)) (vs : List D)
 | ins (c : Str) (ns : List Str) (vs : List D)
 | scr (xs : List D)
 | exn | exf (ns : List Str) (vs : List D)
section
variable (K : Gd) (S : Hp)
mutual
def Rep : V -> D -> Prop
 | v, .non => v = .non
 | v, .bl b => v = .bl b
 | v, .int i => v = .int i
 | v, .str x => v = .str x
 | v, .tup ds => ∃ a vs, v = .ref a /\ S a = some (.tup vs) /\ Reps vs ds
 | v, .ktp ds => ∃ a vs, v = .ref a /\ SqT K.K (fun _ => none) a vs /\ Reps vs ds
 | v, .lst ds => ∃ a vs, v = .ref a /\ S a = some (.lst vs) /\ Reps vs ds
 | v, .kdc ks ds => ∃ a vs, v = .ref a /\ KDic K a (ks.zip vs) /\ ks.length = vs.length /\ Reps vs ds
 | v, .dK ks ds => ∃ a vs, v = .ref a /\ S a = some (.dK (ks.zip vs)) /\ ks.length = vs.length /\ Reps vs ds
 | v, .dT ks ds => ∃ a vs, v = .ref a /\ S a = some (.dT (ks.zip vs)) /\ ks.length = vs.length /\ Reps vs ds
 | v, .ins c ns ds => ∃ a C dx vs, v = .ref a /\ K.mg c = some (.ref C) /\ S a = some (.ins C dx (ns.zip vs)) /\ ns.length = vs.length /\ Reps vs ds
 | v, .scr ds => ∃ a vs, v = .ref a /\ SqL K.K S a vs /\ Reps vs ds
 | v, .exn => ∃ a, K.xa = some (a, none) /\ v = .ref a
 | v, .exf ns ds => ∃ a dx us, K.xa = some (a, some dx) /\ v = .ref a /\ S dx = some (.xd (ns.zip us)) /\ ns.length = us.length /\ Reps us ds
def Reps : List V -> List D -> Prop
 | vs, [] => vs = []
 | vs, d :: ds => ∃ v vr, vs = v :: vr /\ Rep v d /\ Reps vr ds
end
def RepO : HO -> D -> Prop
 | o, .lst ds => ∃ vs, o = .lst vs /\ Reps K S vs ds
 | o, .dK ks ds => ∃ vs, o = .dK (ks.zip vs) /\ ks.length = vs.length /\ Reps K S vs ds
 | o, .dT ks ds => ∃ vs, o = .dT (ks.zip vs) /\ ks.length = vs.length /\ Reps K S vs ds
 | o, .ins c ns ds => ∃ C dx vs, K.mg c = some (.ref C) /\ o = .ins C dx (ns.zip vs) /\ ns.length = vs.length /\ Reps K S vs ds
 | _, _ => False
end
theorem sqL_same {K : PySem.W.Frag} {S S' : Hp} {a : Addr} {vs : List V} (h : Same S S') (s : SqL K S a vs) : SqL K S' a vs := by
 rcases s with (e | ⟨o, e⟩) | e
 ·exact .inl (.inl (h _ _ e))
 ·exact .inl (.inr ⟨o, h _ _ e⟩)
 ·exact .inr e
mutual
theorem Rep.mono {K : Gd} {S S' : Hp} (h : Same S S') : ∀ {v : V} {d : D}, Rep K S v d -> Rep K S' v d
 | v, .non, r => by simpa only [Rep] using r
 | v, .bl b, r => by simpa only [Rep] using r
 | v, .int i, r => by simpa only [Rep] using r
 | v, .str x, r => by simpa only [Rep] using r
 | v, .tup ds, r => by
  simp only [Rep] at r ⊢
  obtain ⟨a, vs, e, s, q⟩ := r
  exact ⟨a, vs, e, h _ _ s, Reps.mono h q⟩
 | v, .ktp ds, r => by
  simp only [Rep] at r ⊢
  obtain ⟨a, vs, e, s, q⟩ := r
  exact ⟨a, vs, e, s, Reps.mono h q⟩
 | v, .lst ds, r => by
  simp only [Rep] at r ⊢
  obtain ⟨a, vs, e, s, q⟩ := r
  exact ⟨a, vs, e, h _ _ s, Reps.mono h q⟩
 | v, .kdc ks ds, r => by
  simp only [Rep] at r ⊢
  obtain ⟨a, vs, e, s, l, q⟩ := r
  exact ⟨a, vs, e, s, l, Reps.mono h q⟩
 | v, .dK ks ds, r => by
  simp only [Rep] at r ⊢
  obtain ⟨a, vs, e, s, l, q⟩ := r
  exact ⟨a, vs, e, h _ _ s, l, Reps.mono h q⟩
 | v, .dT ks ds, r => by
  simp only [Rep] at r ⊢
  obtain ⟨a, vs, e, s, l, q⟩ := r
  exact ⟨a, vs, e, h _ _ s, l, Reps.mono h q⟩
 | v, .ins C ns ds, r => by
  simp only [Rep] at r ⊢
  obtain ⟨a, C, dx, vs, e, m, s, l, q⟩ := r
  exact ⟨a, C, dx, vs, e, m, h _ _ s, l, Reps.mono h q⟩
 | v, .scr ds, r => by
  simp only [Rep] at r ⊢
  obtain ⟨a, vs, e, s, q⟩ := r
  exact ⟨a, vs, e, sqL_same h s, Reps.mono h q⟩
 | v, .exn, r => by simpa only [Rep] using r
 | v, .exf ns ds, r => by
  simp only [Rep] at r ⊢
  obtain ⟨a, dx, us, e, e2, s, l, q⟩ := r
  exact ⟨a, dx, us, e, e2, h _ _ s, l, Reps.mono h q⟩
theorem Reps.mono {K : Gd} {S S' : Hp} (h : Same S S') : ∀ {vs : List V} {ds : List D}, Reps K S vs ds -> Reps K S' vs ds
 | vs, [], r => by simpa only [Reps] using r
 | vs, d :: ds, r => by
  simp only [Reps] at r ⊢
  obtain ⟨v, vr, e, s, q⟩ := r
  exact ⟨v, vr, e, Rep.mono h s, Reps.mono h q⟩
end
theorem Reps.length {K : Gd} {S : Hp} : ∀ {vs : List V} {ds : List D}, Reps K S vs ds -> vs.length = ds.length
 | vs, [], r => by
  simp only [Reps] at r
  rw [r]; rfl
 | vs, d :: ds, r => by
  simp only [Reps] at r
  obtain ⟨v, vr, e, _, q⟩ := r
  rw [e, List.length_cons, List.length_cons, Reps.length q]
theorem RepO.mono {K : Gd} {S S' : Hp} (h : Same S S') {o : HO} {d : D} (r : RepO K S o d) : RepO K S' o d := by
 cases d with
 | lst ds => obtain ⟨vs, e, q⟩ := r; exact ⟨vs, e, q.mono h⟩
 | dK ks ds => obtain ⟨vs, e, l, q⟩ := r; exact ⟨vs, e, l, q.mono h⟩
 | dT ks ds => obtain ⟨vs, e, l, q⟩ := r; exact ⟨vs, e, l, q.mono h⟩
 | ins c ns ds => obtain ⟨C, dx, vs, m, e, l, q⟩ := r; exact ⟨C, dx, vs, m, e, l, q.mono h⟩
 | _ => exact r.elim
theorem RepO.rep {K : Gd} {S : Hp} {a : Addr} {o : HO} {d : D} (hs : S a = some o) (r : RepO K S o d) : Rep K S (.ref a) d := by
 cases d with
 | lst ds => obtain ⟨vs, rfl, q⟩ := r; simp only [Rep]; exact ⟨a, vs, rfl, hs, q⟩
 | dK ks ds => obtain ⟨vs, rfl, l, q⟩ := r; simp only [Rep]; exact ⟨a, vs, rfl, hs, l, q⟩
 | dT ks ds => obtain ⟨vs, rfl, l, q⟩ := r; simp only [Rep]; exact ⟨a, vs, rfl, hs, l, q⟩
 | ins c ns ds => obtain ⟨C, dx, vs, m, rfl, l, q⟩ := r; simp only [Rep]; exact ⟨a, C, dx, vs, rfl, m, hs, l, q⟩
 | _ => exact r.elim
theorem Same.upd {H : Hp} {p : Addr} {o : HO} (h : H p = none) : Same H (upd H p o) := fun b u e => by
 rw [upd_ne (ne_of_none e h)]; exact e
theorem Same.refl {H : Hp} : Same H H := fun _ _ e => e
theorem Same.trans' {H H1 H2 : Hp} (a : Same H H1) (b : Same H1 H2) : Same H H2 := fun c o e => b c o (a c o e)
inductive Pc where
 | d (x : D) | p (k : Nat)
inductive Cell where
 | d (x : D) | lst (ps : List Pc) | dK (ks : List Key) (ps : List Pc) | ins (c : Str) (ns : List Str) (ps : List Pc) | tup (ps : List Pc) | dead
def Cell.mut : Cell -> Bool
 | .dead => false
 | .tup _ => false
 | _ => true
inductive Slot where
 | no | v (d : D) | own (d : D) | box (d : D) | pt (k : Nat) | bor (k : Nat) (d : D) | hp (cs : List Cell)
def Slot.held : Slot -> Option D
 | .own d => some d
 | .box d => some d
 | .bor _ d => some d
 | _ => none
abbrev ME := List Slot
structure BxA where
 ad : Addr
 al : List Addr
section
variable (K : Gd) (S : Hp) (α : List Addr)
def RepP (v : V) : Pc -> Prop
 | .d x => Rep K S v x
 | .p k => ∃ a, α[k]? = some a /\ v = .ref a
def RepPs : List V -> List Pc -> Prop
 | vs, [] => vs = []
 | vs, p :: ps => ∃ v vr, vs = v :: vr /\ RepP K S α v p /\ RepPs vr ps
def RepC (o : HO) : Cell -> Prop
 | .d x => RepO K S o x
 | .lst ps => ∃ vs, o = .lst vs /\ RepPs K S α vs ps
 | .dK ks ps => ∃ vs, o = .dK (ks.zip vs) /\ ks.length = vs.length /\ RepPs K S α vs ps
 | .ins c ns ps => ∃ C dx vs, K.mg c = some (.ref C) /\ o = .ins C dx (ns.zip vs) /\ ns.length = vs.length /\ RepPs K S α vs ps
 | .tup ps => ∃ vs, o = .tup vs /\ RepPs K S α vs ps
 | .dead => False
end
theorem RepP.mono {K : Gd} {S S' : Hp} {α β : List Addr} (h : Same S S') (ha : ∀ (k : Nat) (a : Addr), α[k]? = some a -> β[k]? = some a) {v : V} {p : Pc} (r : RepP K S α v p) : RepP K S' β v p := by
 cases p with
 | d x => exact Rep.mono h r
 | p k => obtain ⟨a, e, f⟩ := r; exact ⟨a, ha _ _ e, f⟩
theorem RepPs.mono {K : Gd} {S S' : Hp} {α β : List Addr} (h : Same S S') (ha : ∀ (k : Nat) (a : Addr), α[k]? = some a -> β[k]? = some a) : ∀ {vs : List V} {ps : List Pc}, RepPs K S α vs ps -> RepPs K S' β vs ps
 | vs, [], r => r
 | vs, p :: ps, r => by
  obtain ⟨v, vr, e, s, q⟩ := r
  exact ⟨v, vr, e, s.mono h ha, RepPs.mono h ha q⟩
theorem RepC.mono {K : Gd} {S S' : Hp} {α β : List Addr} (h : Same S S') (ha : ∀ (k : Nat) (a : Addr), α[k]? = some a -> β[k]? = some a) {o : HO} {c : Cell} (r : RepC K S α o c) : RepC K S' β o c := by
 cases c with
 | d x => exact RepO.mono h r
 | lst ps => obtain ⟨vs, e, q⟩ := r; exact ⟨vs, e, q.mono h ha⟩
 | dK ks ps => obtain ⟨vs, e, l, q⟩ := r; exact ⟨vs, e, l, q.mono h ha⟩
 | ins c ns ps => obtain ⟨C, dx, vs, m, e, l, q⟩ := r; exact ⟨C, dx, vs, m, e, l, q.mono h ha⟩
 | tup ps => obtain ⟨vs, e, q⟩ := r; exact ⟨vs, e, q.mono h ha⟩
 | dead => exact r
def LockO : HO -> Prop
 | .dK _ => True
 | .dT _ => True
 | _ => False
structure CelX (K : Gd) (B : BxA) (Fr S : Hp) (ρ : ME) (σ : SV) (H : Hp) (cs : List Cell) (α : List Addr) : Prop where
 pre : ∀ (k : Nat) (a : Addr), B.al[k]? = some a -> α[k]? = some a
 len : α.length = cs.length
 at_ : ∀ (k : Nat) (c : Cell), cs[k]? = some c -> c.mut = true -> ∃ a o, α[k]? = some a /\ H a = some o /\ RepC K S α o c /\ S a = none /\ Fr a = none
 tu : ∀ (k : Nat) (ps : List Pc), cs[k]? = some (.tup ps) -> ∃ a vs, α[k]? = some a /\ S a = some (.tup vs) /\ RepPs K S α vs ps
 one : ∀ (k l : Nat) (c e : Cell) (a : Addr), cs[k]? = some c -> c.mut = true -> cs[l]? = some e -> e.mut = true -> α[k]? = some a -> α[l]? = some a -> k = l
 off : ∀ (j : Nat) (s : Slot) (d : D) (k : Nat) (c : Cell) (a : Addr), ρ[j]? = some s -> s.held = some d -> cs[k]? = some c -> c.mut = true -> α[k]? = some a -> σ[j]? ≠ some (some (V.ref a))
 pt : ∀ (j k : Nat), ρ[j]? = some (.pt k) -> ∃ a, α[k]? = some a /\ σ[j]? = some (some (V.ref a))
 bo : ∀ (j k : Nat) (d : D), ρ[j]? = some (.bor k d) -> ∃ a, α[k]? = some a /\ σ[j]? = some (some (V.ref a))
structure CeOk (K : Gd) (B : BxA) (Fr S : Hp) (ρ : ME) (σ : SV) (H : Hp) : Prop where
 ex : ∀ (i : Nat) (cs : List Cell), ρ[i]? = some (.hp cs) -> ∃ α, CelX K B Fr S ρ σ H cs α
 un : ∀ (i j : Nat) (cs es : List Cell), ρ[i]? = some (.hp cs) -> ρ[j]? = some (.hp es) -> i = j
structure Ok (K : Gd) (B : BxA) (Fr S : Hp) (ρ : ME) (σ : SV) (H : Hp) : Prop where
 fr : ∀ b o, Fr b = some o -> H b = some o
 st : ∀ b o, S b = some o -> H b = some o \/ (LockO o /\ ∃ od, H b = some (.frz od o) /\ Fr b = some (.frz od o))
 len : ρ.length = σ.length
 vs : ∀ (i : Nat) (d : D), ρ[i]? = some (Slot.v d) -> ∃ x, σ[i]? = some (some x) /\ Rep K S x d
 ow : ∀ (i : Nat) (s : Slot) (d : D), ρ[i]? = some s -> s.held = some d -> ∃ (a : Addr) (o : HO), σ[i]? = some (some (V.ref a)) /\ H a = some o /\ RepO K S o d /\ S a = none /\ Fr a = none
 bx : ∀ (i : Nat) (d : D), ρ[i]? = some (Slot.box d) -> σ[i]? = some (some (V.ref B.ad))
 inj : ∀ (i j : Nat) (s t : Slot) (d e : D) (a : Addr), i ≠ j -> ρ[i]? = some s -> s.held = some d -> ρ[j]? = some t -> t.held = some e -> σ[i]? = some (some (V.ref a)) -> σ[j]? ≠ some (some (V.ref a))
 ce : CeOk K B Fr S ρ σ H
def NT : HO -> Prop
 | .tup _ => False
 | _ => True
structure Ext (Fr S S' : Hp) : Prop where
 same : Same S S'
 fresh : ∀ b o, S b = none -> Fr b = some o -> NT o -> S' b = none
theorem Ext.refl {Fr S : Hp} : Ext Fr S S := ⟨Same.refl, fun _ _ h _ _ => h⟩
theorem Ext.trans {Fr S S1 S2 : Hp} (a : Ext Fr S S1) (b : Ext Fr S1 S2) : Ext Fr S S2 :=
 ⟨Same.trans' a.same b.same, fun c o h f n => b.fresh c o (a.fresh c o h f n) f n⟩
theorem RepO.nt {K : Gd} {S : Hp} {o : HO} {d : D} (r : RepO K S o d) : NT o := by
 cases d with
 | lst ds => obtain ⟨vs, rfl, _⟩ := r; exact trivial
 | dK ks ds => obtain ⟨vs, rfl, _⟩ := r; exact trivial
 | dT ks ds => obtain ⟨vs, rfl, _⟩ := r; exact trivial
 | ins c ns ds => obtain ⟨C, dx, vs, _, rfl, _⟩ := r; exact trivial
 | _ => exact r.elim
theorem RepC.nt {K : Gd} {S : Hp} {α : List Addr} {o : HO} {c : Cell} (r : RepC K S α o c) (m : c.mut = true) : NT o := by
 cases c with
 | tup ps => cases m
 | d x => exact RepO.nt r
 | lst ps => obtain ⟨vs, rfl, _⟩ := r; exact trivial
 | dK ks ps => obtain ⟨vs, rfl, _⟩ := r; exact trivial
 | ins c ns ps => obtain ⟨C, dx, vs, _, rfl, _⟩ := r; exact trivial
 | dead => exact r.elim
def NoHeld (ρ : ME) (σ : SV) (a : Addr) : Prop := ∀ (j : Nat) (s : Slot) (d : D), ρ[j]? = some s -> s.held = some d -> σ[j]? ≠ some (some (V.ref a))
def Kin (s' s : Slot) : Prop := (s.held ≠ none -> s'.held ≠ none) /\ (∀ k, s = .pt k -> s' = .pt k) /\ (∀ k d, s = .bor k d -> ∃ d', s' = .bor k d')
theorem Kin.refl {s : Slot} : Kin s s := ⟨id, fun _ e => e, fun _ d e => ⟨d, e⟩⟩
theorem CelX.heap {K : Gd} {B B' : BxA} {Fr Fr' S S' : Hp} {ρ : ME} {σ : SV} {H H' : Hp} {cs : List Cell} {α : List Addr} (h : CelX K B Fr S ρ σ H cs α) (sm : Same S S') (pre : ∀ (k : Nat) (a : Addr), B'.al[k]? = some a -> B.al[k]? = some a)
    (keep : ∀ a o, H a = some o -> S a = none -> Fr a = none -> NT o -> NoHeld ρ σ a -> H' a = some o /\ S' a = none /\ Fr' a = none) : CelX K B' Fr' S' ρ σ H' cs α := by
  refine ⟨fun k a e => h.pre k a (pre k a e), h.len, fun k c e n => ?_, fun k ps e => by obtain ⟨a, vs, e1, e2, e3⟩ := h.tu k ps e; exact ⟨a, vs, e1, sm _ _ e2, RepPs.mono sm (fun _ _ z => z) e3⟩, h.one, h.off, h.pt, h.bo⟩
  obtain ⟨a, o, e1, e2, r, e3, e4⟩ := h.at_ k c e n
  obtain ⟨f1, f2, f3⟩ := keep a o e2 e3 e4 (r.nt n) fun j s d q1 q2 => h.off j s d k c a q1 q2 e n e1
  exact ⟨a, o, e1, f1, r.mono sm fun _ _ z => z, f2, f3⟩
theorem CelX.slots {K : Gd} {B : BxA} {Fr S : Hp} {ρ ρ' : ME} {σ σ' : SV} {H : Hp} {cs : List Cell} {α : List Addr} (h : CelX K B Fr S ρ σ H cs α)
    (sl : ∀ (j : Nat) (s : Slot), ρ'[j]? = some s -> (s.held ≠ none \/ ∃ k, s = .pt k) -> (∃ (i : Nat) (s' : Slot), ρ[i]? = some s' /\ σ[i]? = σ'[j]? /\ Kin s' s) \/
      (∃ d, s = .own d /\ ∀ (k : Nat) (c : Cell) (a : Addr), cs[k]? = some c -> c.mut = true -> α[k]? = some a -> σ'[j]? ≠ some (some (V.ref a)))) : CelX K B Fr S ρ' σ' H cs α := by
  refine ⟨h.pre, h.len, h.at_, h.tu, h.one, fun j s d k c a e1 e2 e3 e4 e5 => ?_, fun j k e => ?_, fun j k d e => ?_⟩
  · rcases sl j s e1 (.inl (by rw [e2]; exact fun z => nomatch z)) with ⟨i, s', q1, q2, q3⟩ | ⟨d', _, q⟩
    · have q4 := q3.1 (by rw [e2]; exact fun z => nomatch z)
      cases q5 : s'.held with
      | none => exact absurd q5 q4
      | some d2 => rw [<- q2]; exact h.off i s' d2 k c a q1 q5 e3 e4 e5
    · exact q k c a e3 e4 e5
  · rcases sl j _ e (.inr ⟨k, rfl⟩) with ⟨i, s', q1, q2, q3⟩ | ⟨d', z, _⟩
    · rw [<- q2]; exact h.pt i k (by rw [q1, q3.2.1 k rfl])
    · cases z
  · rcases sl j _ e (.inl fun z => nomatch z) with ⟨i, s', q1, q2, q3⟩ | ⟨d', z, _⟩
    · obtain ⟨d2, q4⟩ := q3.2.2 k d rfl
      rw [<- q2]; exact h.bo i k d2 (by rw [q1, q4])
    · cases z
theorem CeOk.heap {K : Gd} {B B' : BxA} {Fr Fr' S S' : Hp} {ρ : ME} {σ : SV} {H H' : Hp} (h : CeOk K B Fr S ρ σ H) (sm : Same S S') (pre : ∀ (k : Nat) (a : Addr), B'.al[k]? = some a -> B.al[k]? = some a)
    (keep : ∀ a o, H a = some o -> S a = none -> Fr a = none -> NT o -> NoHeld ρ σ a -> H' a = some o /\ S' a = none /\ Fr' a = none) : CeOk K B' Fr' S' ρ σ H' :=
  ⟨fun i cs e => by obtain ⟨α, c⟩ := h.ex i cs e; exact ⟨α, c.heap sm pre keep⟩, h.un⟩
theorem CeOk.slots {K : Gd} {B : BxA} {Fr S : Hp} {ρ ρ' : ME} {σ σ' : SV} {H : Hp} (h : CeOk K B Fr S ρ σ H) (f : Nat -> Nat) (fi : ∀ i j, f i = f j -> i = j) (hh : ∀ j cs, ρ'[j]? = some (.hp cs) -> ρ[f j]? = some (.hp cs))
    (sl : ∀ (cs : List Cell) (α : List Addr), CelX K B Fr S ρ σ H cs α -> ∀ (j : Nat) (s : Slot), ρ'[j]? = some s -> (s.held ≠ none \/ ∃ k, s = .pt k) -> (∃ (i : Nat) (s' : Slot), ρ[i]? = some s' /\ σ[i]? = σ'[j]? /\ Kin s' s) \/
      (∃ d, s = .own d /\ ∀ (k : Nat) (c : Cell) (a : Addr), cs[k]? = some c -> c.mut = true -> α[k]? = some a -> σ'[j]? ≠ some (some (V.ref a)))) : CeOk K B Fr S ρ' σ' H :=
  ⟨fun i cs e => by obtain ⟨α, c⟩ := h.ex _ cs (hh i cs e); exact ⟨α, c.slots (sl cs α c)⟩, fun i j cs es e1 e2 => fi i j (h.un _ _ cs es (hh i cs e1) (hh j es e2))⟩
theorem CeOk.pushV {K : Gd} {B : BxA} {Fr S : Hp} {ρ : ME} {σ : SV} {H : Hp} (h : CeOk K B Fr S ρ σ H) {s : Slot} {x : Option V} (h1 : ∀ cs, s ≠ .hp cs) (h2 : s.held ≠ Option.none -> False) (h3 : ∀ k, s ≠ .pt k) : CeOk K B Fr S (s :: ρ) (x :: σ) H := by
 refine ⟨fun i cs e => ?_, fun i j cs es e1 e2 => ?_⟩
 ·cases i with
  | zero => simp at e; exact absurd e (h1 cs)
  | succ i =>
   obtain ⟨α, c⟩ := h.ex i cs (by simpa using e)
   refine ⟨α, c.slots fun j t q1 q2 => ?_⟩
   cases j with
   | zero =>
    simp at q1; subst q1
    rcases q2 with q2 | ⟨k, q2⟩
    ·exact (h2 q2).elim
    ·exact absurd q2 (h3 k)
   | succ j => exact .inl ⟨j, t, by simpa using q1, by simp, Kin.refl⟩
 ·cases i with
  | zero => simp at e1; exact absurd e1 (h1 cs)
  | succ i =>
   cases j with
   | zero => simp at e2; exact absurd e2 (h1 es)
   | succ j => rw [h.un i j cs es (by simpa using e1) (by simpa using e2)]
theorem CeOk.pushO {K : Gd} {B : BxA} {Fr S : Hp} {ρ : ME} {σ : SV} {H : Hp} (h : CeOk K B Fr S ρ σ H) {d : D} {p : Addr} (hc : ∀ (i : Nat) (cs : List Cell), ρ[i]? = some (.hp cs) -> ∃ α, CelX K B Fr S ρ σ H cs α /\ ∀ (k : Nat) (c : Cell), cs[k]? = some c -> c.mut = true -> α[k]? ≠ some p) :
    CeOk K B Fr S (.own d :: ρ) (some (.ref p) :: σ) H := by
  refine ⟨fun i cs e => ?_, fun i j cs es e1 e2 => ?_⟩
  · cases i with
    | zero => simp at e
    | succ i =>
      obtain ⟨α, c, hc⟩ := hc i cs (by simpa using e)
      refine ⟨α, c.slots fun j t q1 q2 => ?_⟩
      cases j with
      | zero =>
        simp at q1; subst q1
        refine .inr ⟨d, rfl, fun k c' a z1 z2 z3 z4 => ?_⟩
        simp at z4; subst z4
        exact hc k c' z1 z2 z3
      | succ j => exact .inl ⟨j, t, by simpa using q1, by simp, Kin.refl⟩
  · cases i with
    | zero => simp at e1
    | succ i =>
      cases j with
      | zero => simp at e2
      | succ j => rw [h.un i j cs es (by simpa using e1) (by simpa using e2)]
theorem CelX.offNew {K : Gd} {B B' : BxA} {Fr Fr' S S' : Hp} {ρ : ME} {σ : SV} {H H' : Hp} {cs : List Cell} {α : List Addr} {p : Addr} (h : CelX K B Fr S ρ σ H cs α) (sm : Same S S') (pre : ∀ (k : Nat) (a : Addr), B'.al[k]? = some a -> B.al[k]? = some a)
    (keep : ∀ a o, H a = some o -> S a = none -> Fr a = none -> NT o -> NoHeld ρ σ a -> H' a = some o /\ S' a = none /\ Fr' a = none) (hp : H p = none) :
    ∃ α, CelX K B' Fr' S' ρ σ H' cs α /\ ∀ (k : Nat) (c : Cell), cs[k]? = some c -> c.mut = true -> α[k]? ≠ some p := by
  refine ⟨α, h.heap sm pre keep, fun k c z1 z2 z3 => ?_⟩
  obtain ⟨a, u, q1, q2, _⟩ := h.at_ k c z1 z2
  rw [z3] at q1; cases q1
  rw [hp] at q2; cases q2
theorem CeOk.more {K : Gd} {B : BxA} {Fr S : Hp} {ρ : ME} {σ : SV} {H : Hp} (h : CeOk K B Fr S ρ σ H) (hl : ρ.length = σ.length) (n : Nat) : CeOk K B Fr S (ρ ++ List.replicate n .no) (σ ++ List.replicate n Option.none) H := by
 have key : ∀ (j : Nat) (s : Slot), (ρ ++ List.replicate n Slot.no)[j]? = some s -> s ≠ .no -> j < ρ.length /\ ρ[j]? = some s := fun j s e ne => by
  by_cases hj : j < ρ.length
  ·rw [List.getElem?_append_left hj] at e; exact ⟨hj, e⟩
  ·rw [List.getElem?_append_right (by omega), List.getElem?_replicate] at e
   split at e
   ·cases e; exact absurd rfl ne
   ·cases e
 refine h.slots id (fun _ _ z => z) (fun j cs e => (key j _ e fun z => nomatch z).2) fun _ _ _ j s e q => .inl ?_
 obtain ⟨h1, h2⟩ := key j s e fun z => by
  subst z
  rcases q with q | ⟨k, q⟩
  ·exact q rfl
  ·cases q
 exact ⟨j, s, h2, by rw [List.getElem?_append_left (by omega)], Kin.refl⟩
theorem CeOk.none {K : Gd} {B : BxA} {Fr S : Hp} {ρ : ME} {σ : SV} {H : Hp} (n : ∀ (i : Nat) (cs : List Cell), ρ[i]? ≠ some (.hp cs)) : CeOk K B Fr S ρ σ H :=
 ⟨fun i cs e => absurd e (n i cs), fun i _ cs _ e _ => absurd e (n i cs)⟩
section
variable {K : Gd} {B : BxA} {Fr S : Hp} {ρ : ME} {σ : SV} {H : Hp}
theorem Ok.free (h : Ok K B Fr S ρ σ H) {p : Addr} (hp : H p = none) : Fr p = none /\ S p = none := by
 constructor
 ·cases q : Fr p with
  | none => rfl
  | some o => have e := h.fr p o q; rw [hp] at e; cases e
 ·cases q : S p with
  | none => rfl
  | some o =>
   rcases h.st p o q with e | ⟨_, _, e, _⟩ <;> (rw [hp] at e; cases e)
theorem Ok.ext_new (h : Ok K B Fr S ρ σ H) {p : Addr} {o : HO} (hp : H p = none) : Ext Fr S (upd S p o) := by
 obtain ⟨f, s⟩ := h.free hp
 refine ⟨Same.upd s, fun b ob hb hf _ => ?_⟩
 have e : b ≠ p := fun z => by rw [z, f] at hf; cases hf
 rw [upd_ne e]; exact hb
theorem Ok.new (h : Ok K B Fr S ρ σ H) {p : Addr} {o : HO} (hp : H p = none) : Ok K B Fr (upd S p o) ρ σ (upd H p o) := by
 obtain ⟨f, s⟩ := h.free hp
 have sm : Same S (upd S p o) := Same.upd s
 have keep : ∀ {b u}, H b = some u -> upd H p o b = some u := fun {b u} e => by rw [upd_ne (ne_of_none e hp)]; exact e
 refine ⟨fun b u e => keep (h.fr b u e), fun b u e => ?_, h.len, fun i d e => ?_, fun i s d e hd => ?_, h.bx, h.inj, h.ce.heap sm (fun _ _ z => z) fun a u e1 e2 e3 _ _ => ⟨keep e1, by rw [upd_ne (ne_of_none e1 hp)]; exact e2, e3⟩⟩
 ·by_cases hb : b = p
  ·subst hb; rw [upd_same] at e ⊢; exact .inl e
  ·rw [upd_ne hb] at e
   rcases h.st b u e with z | ⟨l, od, z, zf⟩
   ·exact .inl (keep z)
   ·exact .inr ⟨l, od, keep z, zf⟩
 ·obtain ⟨x, e1, r⟩ := h.vs i d e
  exact ⟨x, e1, r.mono sm⟩
 ·obtain ⟨a, u, e1, e2, r, e3, e4⟩ := h.ow i s d e hd
  exact ⟨a, u, e1, keep e2, r.mono sm, by rw [upd_ne (ne_of_none e2 hp)]; exact e3, e4⟩
theorem Ok.grow (h : Ok K B Fr S ρ σ H) {H' : Hp} (k : Same H H') : Ok K B Fr S ρ σ H' := by
 refine ⟨fun b u e => k _ _ (h.fr b u e), fun b u e => ?_, h.len, h.vs, fun i s d e hd => ?_, h.bx, h.inj, h.ce.heap Same.refl (fun _ _ z => z) fun a u e1 e2 e3 _ _ => ⟨k _ _ e1, e2, e3⟩⟩
 ·rcases h.st b u e with z | ⟨l, od, z, zf⟩
  ·exact .inl (k _ _ z)
  ·exact .inr ⟨l, od, k _ _ z, zf⟩
 ·obtain ⟨a, u, e1, e2, r, e3, e4⟩ := h.ow i s d e hd
  exact ⟨a, u, e1, k _ _ e2, r, e3, e4⟩
theorem Ok.tail {s : Slot} {x : Option V} (h : Ok K B Fr S (s :: ρ) (x :: σ) H) : Ok K B Fr S ρ σ H :=
 ⟨h.fr, h.st, by have := h.len; simpa using this, fun i d e => h.vs (i + 1) d (by simpa using e), fun i s d e hd => h.ow (i + 1) s d (by simpa using e) hd, fun i d e => h.bx (i + 1) d (by simpa using e),
  fun i j s t d e a hij h1 h2 h3 h4 h5 => h.inj (i + 1) (j + 1) s t d e a (by omega) (by simpa using h1) h2 (by simpa using h3) h4 (by simpa using h5),
  h.ce.slots (· + 1) (fun i j e => by simpa using e) (fun j cs e => by simpa using e) fun _ _ _ j s e _ => .inl ⟨j + 1, s, by simpa using e, by simp, Kin.refl⟩⟩
theorem Ok.push (h : Ok K B Fr S ρ σ H) {x : V} {d : D} (r : Rep K S x d) : Ok K B Fr S (.v d :: ρ) (some x :: σ) H := by
 refine ⟨h.fr, h.st, by simp [h.len], fun i e he => ?_, fun i s e he hd => ?_, fun i e he => ?_, fun i j s t e f a hij h1 h2 h3 h4 h5 => ?_, h.ce.pushV (fun _ z => nomatch z) (fun z => absurd rfl z) (fun _ z => nomatch z)⟩
 ·cases i with
  | zero => simp at he; subst he; exact ⟨x, rfl, r⟩
  | succ i => exact h.vs i e (by simpa using he)
 ·cases i with
  | zero => simp at he; subst he; cases hd
  | succ i => exact h.ow i s e (by simpa using he) hd
 ·cases i with
  | zero => simp at he
  | succ i => exact h.bx i e (by simpa using he)
 ·cases i with
  | zero => simp at h1; subst h1; cases h2
  | succ i =>
   cases j with
   | zero => simp at h3; subst h3; cases h4
   | succ j => exact h.inj i j s t e f a (by omega) (by simpa using h1) h2 (by simpa using h3) h4 (by simpa using h5)
theorem Ok.pushNo (h : Ok K B Fr S ρ σ H) {x : Option V} : Ok K B Fr S (.no :: ρ) (x :: σ) H := by
 refine ⟨h.fr, h.st, by simp [h.len], fun i e he => ?_, fun i s e he hd => ?_, fun i e he => ?_, fun i j s t e f a hij h1 h2 h3 h4 h5 => ?_, h.ce.pushV (fun _ z => nomatch z) (fun z => absurd rfl z) (fun _ z => nomatch z)⟩
 ·cases i with
  | zero => simp at he
  | succ i => exact h.vs i e (by simpa using he)
 ·cases i with
  | zero => simp at he; subst he; cases hd
  | succ i => exact h.ow i s e (by simpa using he) hd
 ·cases i with
  | zero => simp at he
  | succ i => exact h.bx i e (by simpa using he)
 ·cases i with
  | zero => simp at h1; subst h1; cases h2
  | succ i =>
   cases j with
   | zero => simp at h3; subst h3; cases h4
   | succ j => exact h.inj i j s t e f a (by omega) (by simpa using h1) h2 (by simpa using h3) h4 (by simpa using h5)
theorem Ok.pushOwn (h : Ok K B Fr S ρ σ H) {p : Addr} {o : HO} {d : D} (hp : H p = some o) (r : RepO K S o d) (hS : S p = none) (hF : Fr p = none)
    (hn : ∀ (i : Nat) (s : Slot) (e : D), ρ[i]? = some s -> s.held = some e -> σ[i]? ≠ some (some (V.ref p))) (hc : ∀ (i : Nat) (cs : List Cell), ρ[i]? = some (.hp cs) -> ∃ α, CelX K B Fr S ρ σ H cs α /\ ∀ (k : Nat) (c : Cell), cs[k]? = some c -> c.mut = true -> α[k]? ≠ some p) : Ok K B Fr S (.own d :: ρ) (some (.ref p) :: σ) H := by
  refine ⟨h.fr, h.st, by simp [h.len], fun i e he => ?_, fun i s e he hd => ?_, fun i e he => ?_, fun i j s t e f a hij h1 h2 h3 h4 h5 => ?_, h.ce.pushO hc⟩
  · cases i with
    | zero => simp at he
    | succ i => exact h.vs i e (by simpa using he)
  · cases i with
    | zero => simp at he; subst he; cases hd; exact ⟨p, o, rfl, hp, r, hS, hF⟩
    | succ i => exact h.ow i s e (by simpa using he) hd
  · cases i with
    | zero => simp at he
    | succ i => exact h.bx i e (by simpa using he)
  · cases i with
    | zero =>
      cases j with
      | zero => exact absurd rfl hij
      | succ j =>
        simp at h5; subst h5
        simpa using hn j t f (by simpa using h3) h4
    | succ i =>
      cases j with
      | zero =>
        intro z
        simp at z; subst z
        exact hn i s e (by simpa using h1) h2 (by simpa using h5)
      | succ j => exact h.inj i j s t e f a (by omega) (by simpa using h1) h2 (by simpa using h3) h4 (by simpa using h5)
theorem Ok.newOwn (h : Ok K B Fr S ρ σ H) {p : Addr} {o : HO} {d : D} (hp : H p = none) (r : RepO K S o d) : Ok K B Fr S (.own d :: ρ) (some (.ref p) :: σ) (upd H p o) := by
 obtain ⟨f, s⟩ := h.free hp
 refine (h.grow (Same.upd hp)).pushOwn upd_same r s f (fun i t e he hd z => ?_) fun i cs e => ?_
 ·obtain ⟨a, u, e1, e2, _⟩ := h.ow i t e he hd
  rw [z] at e1; cases e1
  rw [hp] at e2; cases e2
 ·obtain ⟨α, c⟩ := h.ce.ex i cs e
  refine ⟨α, c.heap Same.refl (fun _ _ z => z) fun a u e1 e2 e3 _ _ => ⟨Same.upd hp _ _ e1, e2, e3⟩, fun k c' z1 z2 z3 => ?_⟩
  obtain ⟨a, u, q1, q2, _⟩ := c.at_ k c' z1 z2
  rw [z3] at q1; cases q1
  rw [hp] at q2; cases q2
theorem Ok.freeze {s : Slot} {d : D} {i : Nat} (h : Ok K B Fr S ρ σ H) (e : ρ[i]? = some s) (hd : s.held = some d) :
    ∃ a S', σ[i]? = some (some (V.ref a)) /\ Ext Fr S S' /\ Ok K B Fr S' (ρ.set i (.v d)) σ H /\ Rep K S' (.ref a) d := by
  obtain ⟨a, o, e1, e2, r, e3, e4⟩ := h.ow i s d e hd
  have sm : Same S (upd S a o) := Same.upd e3
  have hi : i < ρ.length := (List.getElem?_eq_some_iff.mp e).1
  refine ⟨a, upd S a o, e1, ⟨sm, fun b ob hb hf _ => ?_⟩, ⟨h.fr, fun b u eb => ?_, by rw [List.length_set]; exact h.len, fun j f ej => ?_, fun j t f ej hf => ?_, fun j f ej => ?_, fun j k t u f g c hjk h1 h2 h3 h4 h5 => ?_, ?_⟩, RepO.rep upd_same (r.mono sm)⟩
  · have q : b ≠ a := fun z => by rw [z, e4] at hf; cases hf
    rw [upd_ne q]; exact hb
  · by_cases hb : b = a
    · subst hb; rw [upd_same] at eb; cases eb; exact .inl e2
    · rw [upd_ne hb] at eb; exact h.st b u eb
  · by_cases hj : i = j
    · subst hj
      rw [List.getElem?_set_self hi] at ej
      cases ej
      exact ⟨_, e1, RepO.rep upd_same (r.mono sm)⟩
    · rw [List.getElem?_set_ne hj] at ej
      obtain ⟨x, q1, q2⟩ := h.vs j f ej
      exact ⟨x, q1, q2.mono sm⟩
  · by_cases hj : i = j
    · subst hj
      rw [List.getElem?_set_self hi] at ej
      cases ej; cases hf
    · rw [List.getElem?_set_ne hj] at ej
      obtain ⟨c, u, q1, q2, q3, q4, q5⟩ := h.ow j t f ej hf
      have hc : c ≠ a := fun z => h.inj i j s t d f a hj e hd ej hf e1 (by rw [q1, z])
      exact ⟨c, u, q1, q2, q3.mono sm, by rw [upd_ne hc]; exact q4, q5⟩
  · by_cases hj : i = j
    · subst hj
      rw [List.getElem?_set_self hi] at ej
      cases ej
    · rw [List.getElem?_set_ne hj] at ej
      exact h.bx j f ej
  · have n1 : i ≠ j := fun z => by
      subst z
      rw [List.getElem?_set_self hi] at h1
      cases h1; cases h2
    have n2 : i ≠ k := fun z => by
      subst z
      rw [List.getElem?_set_self hi] at h3
      cases h3; cases h4
    rw [List.getElem?_set_ne n1] at h1
    rw [List.getElem?_set_ne n2] at h3
    exact h.inj j k t u f g c hjk h1 h2 h3 h4 h5
  · have c1 : CeOk K B Fr (upd S a o) ρ σ H := h.ce.heap sm (fun _ _ z => z) fun b u q1 q2 q3 _ q5 => ⟨q1, by rw [upd_ne (fun z => q5 i s d e hd (by rw [e1, z]))]; exact q2, q3⟩
    have bk : ∀ (j : Nat) (t : Slot), (ρ.set i (.v d))[j]? = some t -> (∀ x, t ≠ .v x) -> ρ[j]? = some t := fun j t q1 q2 => by
      by_cases hj : i = j
      · subst hj
        rw [List.getElem?_set_self hi] at q1
        cases q1; exact absurd rfl (q2 d)
      · rw [List.getElem?_set_ne hj] at q1; exact q1
    exact c1.slots id (fun _ _ z => z) (fun j cs z => bk j _ z fun _ z => nomatch z) fun _ _ _ j t q1 q2 => .inl ⟨j, t, bk j t q1 (fun x z => by
      subst z
      rcases q2 with q2 | ⟨k, q2⟩
      · exact q2 rfl
      · cases q2), rfl, Kin.refl⟩
theorem Ok.freezeTop {d : D} {x : Option V} (h : Ok K B Fr S (.own d :: ρ) (x :: σ) H) : ∃ y S', x = some y /\ Ext Fr S S' /\ Ok K B Fr S' ρ σ H /\ Rep K S' y d := by
 obtain ⟨a, S', e1, e2, e3, r⟩ := h.freeze (i := 0) (s := .own d) rfl rfl
 have e : x = some (V.ref a) := by simpa using e1
 exact ⟨.ref a, S', e, e2, Ok.tail (s := .v d) (x := x) (by simpa using e3), r⟩
theorem Ok.store {s : Slot} {x : Option V} {i : Nat} (h : Ok K B Fr S (s :: ρ) (x :: σ) H) (hs : ∀ d, s ≠ .box d) : Ok K B Fr S (ρ.set i s) (σ.set i x) H := by
 have t := h.tail
 have hl : ρ.length = σ.length := t.len
 by_cases hi : i < ρ.length
 ·have hi' : i < σ.length := by omega
  refine ⟨h.fr, h.st, by rw [List.length_set, List.length_set]; exact hl, fun j d e => ?_, fun j u d e hd => ?_, fun j d e => ?_, fun j k u w d f c hjk h1 h2 h3 h4 h5 => ?_, ?_⟩
  ·by_cases hj : i = j
   ·subst hj
    rw [List.getElem?_set_self hi] at e
    rw [List.getElem?_set_self hi']
    cases e
    simpa using h.vs 0 d rfl
   ·rw [List.getElem?_set_ne hj] at e ⊢
    exact t.vs j d e
  ·by_cases hj : i = j
   ·subst hj
    rw [List.getElem?_set_self hi] at e
    rw [List.getElem?_set_self hi']
    cases e
    simpa using h.ow 0 s d rfl hd
   ·rw [List.getElem?_set_ne hj] at e ⊢
    exact t.ow j u d e hd
  ·by_cases hj : i = j
   ·subst hj
    rw [List.getElem?_set_self hi] at e
    cases e
    exact absurd rfl (hs d)
   ·rw [List.getElem?_set_ne hj] at e ⊢
    exact t.bx j d e
  ·by_cases hj : i = j
   ·subst hj
    rw [List.getElem?_set_self hi] at h1
    rw [List.getElem?_set_self hi'] at h5
    rw [List.getElem?_set_ne hjk] at h3 ⊢
    cases h1
    have h5' : x = some (V.ref c) := by simpa using h5
    simpa using h.inj 0 (k + 1) s w d f c (by omega) rfl h2 (by simpa using h3) h4 (by simp [h5'])
   ·rw [List.getElem?_set_ne hj] at h1 h5
    by_cases hk : i = k
    ·subst hk
     rw [List.getElem?_set_self hi] at h3
     rw [List.getElem?_set_self hi']
     cases h3
     simpa using h.inj (j + 1) 0 u s d f c (by omega) (by simpa using h1) h2 rfl h4 (by simpa using h5)
    ·rw [List.getElem?_set_ne hk] at h3 ⊢
     exact t.inj j k u w d f c hjk h1 h2 h3 h4 h5
  ·refine h.ce.slots (fun j => if j = i then 0 else j + 1) (fun j k e => ?_) (fun j cs e => ?_) fun _ _ _ j u e _ => .inl ?_
   ·split at e <;> split at e <;> omega
   ·by_cases hj : i = j
    ·subst hj
     rw [List.getElem?_set_self hi] at e
     rw [if_pos rfl]
     simpa using e
    ·rw [List.getElem?_set_ne hj] at e
     rw [if_neg (fun z => hj z.symm)]
     simpa using e
   ·by_cases hj : i = j
    ·subst hj
     rw [List.getElem?_set_self hi] at e
     rw [List.getElem?_set_self hi']
     cases e
     exact ⟨0, s, rfl, rfl, Kin.refl⟩
    ·rw [List.getElem?_set_ne hj] at e ⊢
     exact ⟨j + 1, u, by simpa using e, by simp, Kin.refl⟩
 ·rw [List.set_eq_of_length_le (by omega), List.set_eq_of_length_le (by omega)]
  exact t
theorem Ok.write {s : Slot} {d e : D} {i : Nat} {a : Addr} {o : HO} (h : Ok K B Fr S ρ σ H) (es : ρ[i]? = some s) (hd : s.held = some d) (ea : σ[i]? = some (some (V.ref a))) (r : RepO K S o e) (t : Slot)
    (ht : (s = .own d /\ t = .own e) \/ (s = .box d /\ t = .box e) \/ ∃ k, s = .bor k d /\ t = .bor k e) : Ok K B Fr S (ρ.set i t) σ (upd H a o) := by
  obtain ⟨a', o', e1, e2, r', e3, e4⟩ := h.ow i s d es hd
  rw [ea] at e1; cases e1
  have hi : i < ρ.length := (List.getElem?_eq_some_iff.mp es).1
  have th : t.held = some e := by rcases ht with ⟨_, z⟩ | ⟨_, z⟩ | ⟨k, _, z⟩ <;> (rw [z]; rfl)
  refine ⟨fun b u eb => ?_, fun b u eb => ?_, by rw [List.length_set]; exact h.len, fun j f ej => ?_, fun j w f ej hf => ?_, fun j f ej => ?_, fun j k u w f g c hjk h1 h2 h3 h4 h5 => ?_, ?_⟩
  · have q : b ≠ a := fun z => by rw [z, e4] at eb; cases eb
    rw [upd_ne q]; exact h.fr b u eb
  · have q : b ≠ a := fun z => by rw [z, e3] at eb; cases eb
    rw [upd_ne q]; exact h.st b u eb
  · by_cases hj : i = j
    · subst hj
      rw [List.getElem?_set_self hi] at ej
      rcases ht with ⟨_, z⟩ | ⟨_, z⟩ | ⟨k, _, z⟩ <;> (rw [z] at ej; cases ej)
    · rw [List.getElem?_set_ne hj] at ej
      exact h.vs j f ej
  · by_cases hj : i = j
    · subst hj
      rw [List.getElem?_set_self hi] at ej
      cases ej
      rw [th] at hf; cases hf
      exact ⟨a, o, ea, upd_same, r, e3, e4⟩
    · rw [List.getElem?_set_ne hj] at ej
      obtain ⟨c, u, q1, q2, q3, q4, q5⟩ := h.ow j w f ej hf
      have hc : c ≠ a := fun z => h.inj i j s w d f a hj es hd ej hf ea (by rw [q1, z])
      exact ⟨c, u, q1, by rw [upd_ne hc]; exact q2, q3, q4, q5⟩
  · by_cases hj : i = j
    · subst hj
      rw [List.getElem?_set_self hi] at ej
      rcases ht with ⟨_, z⟩ | ⟨z0, z⟩ | ⟨k, _, z⟩
      · rw [z] at ej; cases ej
      · exact h.bx i d (by rw [es, z0])
      · rw [z] at ej; cases ej
    · rw [List.getElem?_set_ne hj] at ej
      exact h.bx j f ej
  · have back : ∀ {j : Nat} {u : Slot} {f : D}, (ρ.set i t)[j]? = some u -> u.held = some f -> ∃ u' f', ρ[j]? = some u' /\ u'.held = some f' := fun {j u f} q1 q2 => by
      by_cases hj : i = j
      · subst hj; exact ⟨s, d, es, hd⟩
      · rw [List.getElem?_set_ne hj] at q1; exact ⟨u, f, q1, q2⟩
    obtain ⟨u1, f1, p1, p2⟩ := back h1 h2
    obtain ⟨u2, f2, p3, p4⟩ := back h3 h4
    exact h.inj j k u1 u2 f1 f2 c hjk p1 p2 p3 p4 h5
  · have c1 : CeOk K B Fr S ρ σ (upd H a o) := h.ce.heap Same.refl (fun _ _ z => z) fun b u q1 q2 q3 _ q5 => ⟨by rw [upd_ne (fun z => q5 i s d es hd (by rw [ea, z]))]; exact q1, q2, q3⟩
    refine c1.slots id (fun _ _ z => z) (fun j cs z => ?_) fun _ _ _ j w q1 q2 => .inl ?_
    · by_cases hj : i = j
      · subst hj
        rw [List.getElem?_set_self hi] at z
        rcases ht with ⟨_, y⟩ | ⟨_, y⟩ | ⟨k, _, y⟩ <;> (rw [y] at z; cases z)
      · rw [List.getElem?_set_ne hj] at z; exact z
    · by_cases hj : i = j
      · subst hj
        rw [List.getElem?_set_self hi] at q1
        cases q1
        refine ⟨i, s, es, rfl, (fun _ => by rw [hd]; exact fun z => (nomatch z)), fun k z => ?_, fun k f z => ?_⟩
        · rw [z] at th; cases th
        · rcases ht with ⟨_, y⟩ | ⟨_, y⟩ | ⟨k', y0, y⟩
          · rw [y] at z; cases z
          · rw [y] at z; cases z
          · rw [y] at z; cases z; exact ⟨d, y0⟩
      · rw [List.getElem?_set_ne hj] at q1; exact ⟨j, w, q1, rfl, Kin.refl⟩
end
structure Er where
 nm : Str
 ns : List Str
 vs : List D
instance : Coe Str Er := ⟨fun s => ⟨s, [], []⟩⟩
instance : Coe String Er := ⟨fun s => ⟨Str.ofString s, [], []⟩⟩
def Er.dat (c : Er) : D := match c.ns with
 | [] => .exn
 | _ :: _ => .exf c.ns c.vs
def ErrD (G : Gd) (S H : Hp) (c : Er) (d : Option Addr) : Prop := match c.ns with
 | [] => d = none
 | n :: ns => ∃ dx us, d = some dx /\ S dx = some (.xd ((n :: ns).zip us)) /\ (n :: ns).length = us.length /\ Reps G S us c.vs
inductive Res (α : Type) where
 | ok (a : α) | err (c : Er) (ρ : ME) | stuck
def bnd {α β : Type} (r : Res α) (f : α -> Res β) : Res β := match r with
 | .ok a => f a
 | .err c ρ => .err c ρ
 | .stuck => .stuck
abbrev MR := Res (Slot × ME)
def frz (r : MR) (f : D -> ME -> Res (Slot × ME)) : MR := match r with
 | .ok (.v d, ρ) => f d ρ
 | .ok (.own d, ρ) => f d ρ
 | .ok _ => .stuck
 | .err c ρ => .err c ρ
 | .stuck => .stuck
section
variable (K : Gd) (W : WX)
def Cont (B : BxA) (Fr S : Hp) (σ : SV) (Q : VK) : MR -> Prop
 | .ok (s, ρ) => ∀ x S' H', Ext Fr S S' -> Ok K B Fr S' (s :: ρ) (some x :: σ) H' -> Q x H'
 | .err c ρ => ∀ S' H', Ext Fr S S' -> Ok K B Fr S' ρ σ H' -> ∀ C, K.mg c.nm = some (.ref C) -> ∀ dd, ErrD K S' H' c dd -> W (.ref C) dd σ H'
 | .stuck => False
def tM (m : ME -> MR) : TE := fun σ H Q => ∃ B Fr S ρ, Ok K B Fr S ρ σ H /\ Cont K W B Fr S σ Q (m ρ)
end
section
variable {K : Gd} {W : WX} {B : BxA} {Fr S S' : Hp} {ρ : ME} {σ : SV} {H : Hp} {Q : VK}
theorem Cont.mono {r : MR} (h : Cont K W B Fr S σ Q r) (e : Ext Fr S S') : Cont K W B Fr S' σ Q r := by
 cases r with
 | ok p => exact fun x S2 H2 e2 o => h x S2 H2 (e.trans e2) o
 | err c ρ => exact fun S2 H2 e2 o => h S2 H2 (e.trans e2) o
 | stuck => exact h
theorem opnd {m : ME -> MR} {f : D -> ME -> MR} {P : V -> Hp -> Prop} (h : Ok K B Fr S ρ σ H) (hc : Cont K W B Fr S σ Q (frz (m ρ) f))
    (k : ∀ d ρ1 x S1 H1, Ext Fr S S1 -> Ok K B Fr S1 ρ1 σ H1 -> Rep K S1 x d -> Cont K W B Fr S1 σ Q (f d ρ1) -> P x H1) : tM K W m σ H P := by
  refine ⟨B, Fr, S, ρ, h, ?_⟩
  cases e : m ρ with
  | ok p =>
    obtain ⟨s, ρ1⟩ := p
    intro x S1 H1 e1 o
    rw [e] at hc
    cases s with
    | v d =>
      obtain ⟨x', q1, q2⟩ := o.vs 0 d rfl
      have q3 : x = x' := by simpa using q1
      subst q3
      exact k d ρ1 x S1 H1 e1 o.tail q2 (Cont.mono (show Cont K W B Fr S σ Q (f d ρ1) from hc) e1)
    | own d =>
      obtain ⟨y, S2, q1, e2, o2, r⟩ := o.freezeTop
      cases q1
      exact k d ρ1 x S2 H1 (e1.trans e2) o2 r (Cont.mono (show Cont K W B Fr S σ Q (f d ρ1) from hc) (e1.trans e2))
    | no => exact hc.elim
    | pt _ => exact hc.elim
    | bor _ _ => exact hc.elim
    | hp _ => exact hc.elim
    | box d => exact hc.elim
  | err c ρ1 =>
    rw [e] at hc
    exact hc
  | stuck =>
    rw [e] at hc
    exact hc
end
theorem PE.imp {X : Cx} {e : Expr} {t t' : TE} (h : PE X e t) (hi : ∀ σ H Q, t' σ H Q -> t σ H Q) : PE X e t' := ⟨fun pins s σ H Q I q => h.run pins s σ H Q I (hi σ H Q q)⟩
theorem PT.imp {X : Cx} {e : Expr} {t t' : TT} (h : PT X e t) (hi : ∀ σ H Q, t' σ H Q -> t σ H Q) : PT X e t' := ⟨fun pins s σ H Q I q => h.run pins s σ H Q I (hi σ H Q q)⟩
theorem PS.imp {X : Cx} {e : Stmt} {t t' : TS} (h : PS X e t) (hi : ∀ D σ H, t' D σ H -> t D σ H) : PS X e t' := ⟨fun pins s σ H D I q => h.run pins s σ H D I (hi D σ H q)⟩
theorem PSs.imp {X : Cx} {e : List Stmt} {t t' : TS} (h : PSs X e t) (hi : ∀ D σ H, t' D σ H -> t D σ H) : PSs X e t' := ⟨fun pins s σ H D I q => h.run pins s σ H D I (hi D σ H q)⟩
def gOf (X : Cx) : Gd := ⟨X.prog, X.w, X.K, X.mg, xaOf X.calm X.A.handled X.pn⟩
section
variable {G : Gd} {W : WX} {B : BxA} {Fr S S' : Hp} {ρ : ME} {σ : SV} {H : Hp} {Q : VK}
def Wants (G : Gd) (B : BxA) (Fr S : Hp) (ρ : ME) (σ : SV) (Q : VK) (s : Slot) : Prop :=
 ∀ x S' H', Ext Fr S S' -> Ok G B Fr S' (s :: ρ) (some x :: σ) H' -> Q x H'
theorem Wants.int {i : Int} (k : Wants G B Fr S ρ σ Q (.v (.int i))) (h : Ok G B Fr S ρ σ H) : Q (.int i) H := k _ S H Ext.refl (h.push (by simp only [Rep]))
theorem Wants.bl {i : Bool} (k : Wants G B Fr S ρ σ Q (.v (.bl i))) (h : Ok G B Fr S ρ σ H) : Q (.bl i) H := k _ S H Ext.refl (h.push (by simp only [Rep]))
theorem Wants.str {i : Str} (k : Wants G B Fr S ρ σ Q (.v (.str i))) (h : Ok G B Fr S ρ σ H) : Q (.str i) H := k _ S H Ext.refl (h.push (by simp only [Rep]))
theorem Wants.non (k : Wants G B Fr S ρ σ Q (.v .non)) (h : Ok G B Fr S ρ σ H) : Q .non H := k _ S H Ext.refl (h.push (by simp only [Rep]))
theorem Wants.rep {x : V} {d : D} (k : Wants G B Fr S ρ σ Q (.v d)) (h : Ok G B Fr S ρ σ H) (r : Rep G S x d) : Q x H := k _ S H Ext.refl (h.push r)
theorem Wants.lst {vs : List V} {ds : List D} {p : Addr} (k : Wants G B Fr S ρ σ Q (.own (.lst ds))) (h : Ok G B Fr S ρ σ H) (r : Reps G S vs ds) (hp : H p = none) : Q (.ref p) (upd H p (.lst vs)) :=
 k _ S _ Ext.refl (h.newOwn hp ⟨vs, rfl, r⟩)
theorem Wants.tup {vs : List V} {ds : List D} {p : Addr} (k : Wants G B Fr S ρ σ Q (.v (.tup ds))) (h : Ok G B Fr S ρ σ H) (r : Reps G S vs ds) (hp : H p = none) : Q (.ref p) (upd H p (.tup vs)) := by
 refine k _ (upd S p (.tup vs)) _ (h.ext_new hp) ((h.new hp).push ?_)
 simp only [Rep]
 exact ⟨p, vs, rfl, upd_same, r.mono (Same.upd (h.free hp).2)⟩
def Sem2 (G : Gd) (r : R2) (g : D -> D -> Option Slot) : Prop := ∀ {B : BxA} {Fr S : Hp} {ρ : ME} {σ : SV} {H : Hp} {x y : V} {d e : D} {s : Slot} {Q : VK},
 Ok G B Fr S ρ σ H -> Rep G S x d -> Rep G S y e -> g d e = some s -> Wants G B Fr S ρ σ Q s -> r x y H Q
def mOp (g : D -> D -> Option Slot) (ma mb : ME -> MR) : ME -> MR := fun ρ => frz (ma ρ) fun d ρ1 => frz (mb ρ1) fun e ρ2 => match g d e with
 | some s => .ok (s, ρ2)
 | none => .stuck
theorem sem_op {r : R2} {g : D -> D -> Option Slot} (hg : Sem2 G r g) {ma mb : ME -> MR} (h : tM G W (mOp g ma mb) σ H Q) : tOp r (tM G W ma) (tM G W mb) σ H Q := by
 obtain ⟨B, Fr, S, ρ, o, c⟩ := h
 refine opnd o c fun d ρ1 x S1 H1 e1 o1 r1 c1 => opnd o1 c1 fun e ρ2 y S2 H2 e2 o2 r2 c2 => ?_
 cases q : g d e with
 | none =>
  rw [q] at c2
  exact c2.elim
 | some s =>
  rw [q] at c2
  exact hg o2 (r1.mono e2.same) r2 q c2
end
section
variable {X : Cx} {W : WX} {a b : Expr} {pos : Pos} {ma mb : ME -> MR}
theorem me_op {op : Operator} {r : R2} {g : D -> D -> Option Slot} (ho : OpR X (binaryOp op) r) (hg : Sem2 (gOf X) r g) (ha : PE X a (tM (gOf X) W ma)) (hb : PE X b (tM (gOf X) W mb)) :
    PE X (.BinOp a op b pos) (tM (gOf X) W (mOp g ma mb)) := PE.imp (pe_op ho ha hb) fun _ _ _ h => sem_op hg h
theorem me_cmp {op : CmpOp} {r : R2} {g : D -> D -> Option Slot} (ho : OpR X (compareOp op) r) (hg : Sem2 (gOf X) r g) (ha : PE X a (tM (gOf X) W ma)) (hb : PE X b (tM (gOf X) W mb)) (hm : behindInMarks op b = false := by first | exact nobehind _ (by decide) (by decide) | rfl) :
    PE X (.Compare a [op] [b] pos) (tM (gOf X) W (mOp g ma mb)) := PE.imp (pe_cmpR ho ha hb hm) fun _ _ _ h => sem_op hg h
end
def mulOk (i j : Int) : Bool := decide (i.natAbs < 2 ^ 64) || decide (j.natAbs < 2 ^ 64) || decide (i.natAbs.log2 + j.natAbs.log2 < 1000000)
def gAdd : D -> D -> Option Slot
 | .int i, .int j => some (.v (.int (i + j)))
 | .str i, .str j => if i.length + j.length ≤ sizeLine then some (.v (.str (i ++ j))) else none
 | .lst xs, .lst ys => if xs.length + ys.length ≤ sizeLine then some (.own (.lst (xs ++ ys))) else none
 | .tup xs, .tup ys => if xs.length + ys.length ≤ sizeLine then some (.v (.tup (xs ++ ys))) else none
 | _, _ => none
def gSub : D -> D -> Option Slot
 | .int i, .int j => some (.v (.int (i - j)))
 | _, _ => none
def gMul : D -> D -> Option Slot
 | .int i, .int j => if mulOk i j then some (.v (.int (i * j))) else none
 | .lst xs, .int k => if decide (-(2 ^ 63) ≤ k) && decide (k < 2 ^ 63) && decide (xs.length * k.toNat ≤ sizeLine) then some (.own (.lst (List.replicate k.toNat xs).flatten)) else none
 | _, _ => none
def gFdv : D -> D -> Option Slot
 | .int i, .int j => if decide (0 < j) && decide (j.natAbs.log2 < 9000) then some (.v (.int (i / j))) else none
 | _, _ => none
def gMod : D -> D -> Option Slot
 | .int i, .int j => if decide (0 < j) then some (.v (.int (i % j))) else none
 | _, _ => none
def gPow : D -> D -> Option Slot
 | .int i, .int j => if decide (0 ≤ j) && decide (j ≤ 1000000) && decide (i.natAbs < 2 ^ 64) then some (.v (.int (i ^ j.toNat))) else none
 | _, _ => none
theorem Reps.append {G : Gd} {S : Hp} : ∀ {vs : List V} {ds : List D} {ws : List V} {es : List D}, Reps G S vs ds -> Reps G S ws es -> Reps G S (vs ++ ws) (ds ++ es)
 | vs, [], ws, es, r, q => by
  simp only [Reps] at r
  subst r
  exact q
 | vs, d :: ds, ws, es, r, q => by
  simp only [Reps] at r
  obtain ⟨v, vr, rfl, h, r⟩ := r
  show Reps G S (v :: (vr ++ ws)) (d :: (ds ++ es))
  simp only [Reps]
  exact ⟨v, _, rfl, h, Reps.append r q⟩
theorem Reps.rep {G : Gd} {S : Hp} {vs : List V} {ds : List D} (r : Reps G S vs ds) : ∀ n : Nat, Reps G S (List.replicate n vs).flatten (List.replicate n ds).flatten
 | 0 => by simp only [List.replicate_zero, List.flatten_nil, Reps]
 | n + 1 => by
  rw [List.replicate_succ, List.replicate_succ, List.flatten_cons, List.flatten_cons]
  exact r.append (Reps.rep r n)
theorem Reps.nil {G : Gd} {S : Hp} : Reps G S [] [] := by simp only [Reps]
theorem Reps.cons {G : Gd} {S : Hp} {v : V} {d : D} {vs : List V} {ds : List D} (h : Rep G S v d) (r : Reps G S vs ds) : Reps G S (v :: vs) (d :: ds) := by
 simp only [Reps]
 exact ⟨v, vs, rfl, h, r⟩
theorem Reps.get {G : Gd} {S : Hp} : ∀ {vs : List V} {ds : List D} {i : Nat} {d : D}, Reps G S vs ds -> ds[i]? = some d -> ∃ v, vs[i]? = some v /\ Rep G S v d
 | vs, [], i, d, r, e => by simp at e
 | vs, d' :: ds, 0, d, r, e => by
  simp only [Reps] at r
  obtain ⟨v, vr, rfl, h, r⟩ := r
  simp at e; subst e
  exact ⟨v, rfl, h⟩
 | vs, d' :: ds, i + 1, d, r, e => by
  simp only [Reps] at r
  obtain ⟨v, vr, rfl, h, r⟩ := r
  obtain ⟨u, e1, e2⟩ := Reps.get (i := i) r (by simpa using e)
  exact ⟨u, by simpa using e1, e2⟩
section
variable {G : Gd} {B : BxA} {Fr S : Hp} {ρ : ME} {σ : SV} {H : Hp}
theorem Ok.lstAt (h : Ok G B Fr S ρ σ H) {a : Addr} {vs : List V} (e : S a = some (.lst vs)) : H a = some (.lst vs) := by
 rcases h.st a _ e with q | ⟨q, _⟩
 ·exact q
 ·exact q.elim
theorem Ok.tupAt (h : Ok G B Fr S ρ σ H) {a : Addr} {vs : List V} (e : S a = some (.tup vs)) : H a = some (.tup vs) := by
 rcases h.st a _ e with q | ⟨q, _⟩
 ·exact q
 ·exact q.elim
end
theorem sqT_k {K : PySem.W.Frag} {H : Hp} {a : Addr} {vs : List V} (h : SqT K (fun _ => none) a vs) : SqT K H a vs := by
 rcases h with h | h
 ·rcases h with h | ⟨_, h⟩ <;> cases h
 ·exact .inr h
def rAddA (K : PySem.W.Frag) : R2 := fun x y H Q => (∃ i j, x = .int i /\ y = .int j /\ Q (.int (i + j)) H) \/ (∃ i j, x = .str i /\ y = .str j /\ i.length + j.length ≤ sizeLine /\ Q (.str (i ++ j)) H) \/ rCat x y H Q \/ rCatA K x y H Q
theorem op_addA {X : Cx} : OpR X (binaryOp .Add) (rAddA X.K) := OpR.or op_add (OpR.or op_add_str (OpR.or op_cat op_catA))
theorem sem_add {G : Gd} : Sem2 G (rAddA G.K) gAdd := by
 intro B Fr S ρ σ H x y d e s Q o rx ry hg k
 cases d with
 | int i =>
  cases e with
  | int j =>
   simp only [Rep] at rx ry
   subst rx ry
   cases hg
   exact .inl ⟨i, j, rfl, rfl, k.int o⟩
  | _ => cases hg
 | str i =>
  cases e with
  | str j =>
   simp only [Rep] at rx ry
   subst rx ry
   simp only [gAdd] at hg
   split at hg
   ·cases hg
    exact .inr (.inl ⟨i, j, rfl, rfl, ‹_›, k.str o⟩)
   ·cases hg
  | _ => cases hg
 | lst xs =>
  cases e with
  | lst ys =>
   simp only [Rep] at rx ry
   obtain ⟨a, vs, rfl, ha, ra⟩ := rx
   obtain ⟨b, ws, rfl, hb, rb⟩ := ry
   simp only [gAdd] at hg
   split at hg
   ·cases hg
    refine .inr (.inr (.inl ⟨a, b, vs, ws, rfl, rfl, o.lstAt ha, o.lstAt hb, by rw [ra.length, rb.length]; assumption, fun p hp => k.lst o (ra.append rb) hp⟩))
   ·cases hg
  | _ => cases hg
 | tup xs =>
  cases e with
  | tup ys =>
   have rx' := rx
   have ry' := ry
   simp only [Rep] at rx ry
   obtain ⟨a, vs, rfl, ha, ra⟩ := rx
   obtain ⟨b, ws, rfl, hb, rb⟩ := ry
   simp only [gAdd] at hg
   split at hg
   ·cases hg
    refine .inr (.inr (.inr ⟨a, b, vs, ws, rfl, rfl, SqT.of (o.tupAt ha), SqT.of (o.tupAt hb), by rw [ra.length, rb.length]; assumption, fun e1 => ?_, fun e1 e2 => ?_, fun e1 e2 p hp => k.tup o (ra.append rb) hp⟩))
    ·subst e1
     have z : xs = [] := by have q := ra.length; simpa using q.symm
     subst z
     exact k.rep o ry'
    ·subst e2
     have z : ys = [] := by have q := rb.length; simpa using q.symm
     subst z
     rw [List.append_nil] at k
     exact k.rep o rx'
   ·cases hg
  | _ => cases hg
 | _ => cases e <;> cases hg
theorem sem_sub {G : Gd} : Sem2 G (rI0 fun i j => .int (i - j)) gSub := by
 intro B Fr S ρ σ H x y d e s Q o rx ry hg k
 obtain ⟨i, j, rfl, rfl⟩ : ∃ i j, d = .int i /\ e = .int j := by
  unfold gSub at hg
  split at hg
  ·exact ⟨_, _, rfl, rfl⟩
  ·cases hg
 simp only [Rep] at rx ry
 subst rx ry
 cases hg
 exact ⟨i, j, rfl, rfl, k.int o⟩
def rMulA : R2 := fun x y H Q => rI CMul (fun i j => .int (i * j)) x y H Q \/ rI CMulW (fun i j => .int (i * j)) x y H Q \/ rRep x y H Q
theorem op_mulA {X : Cx} : OpR X (binaryOp .Mult) rMulA := OpR.or op_mul (OpR.or op_mulW op_rep)
theorem sem_mul {G : Gd} : Sem2 G rMulA gMul := by
 intro B Fr S ρ σ H x y d e s Q o rx ry hg k
 cases d with
 | int i =>
  cases e with
  | int j =>
   simp only [Rep] at rx ry
   subst rx ry
   simp only [gMul] at hg
   split at hg
   ·cases hg
    rename_i hm
    unfold mulOk at hm
    rw [Bool.or_eq_true, Bool.or_eq_true, decide_eq_true_eq, decide_eq_true_eq, decide_eq_true_eq] at hm
    rcases hm with (hm | hm) | hm
    ·exact .inl ⟨i, j, rfl, rfl, .inl (by omega), k.int o⟩
    ·exact .inl ⟨i, j, rfl, rfl, .inr (by omega), k.int o⟩
    ·exact .inr (.inl ⟨i, j, rfl, rfl, hm, k.int o⟩)
   ·cases hg
  | _ => cases hg
 | lst xs =>
  cases e with
  | int j =>
   simp only [Rep] at rx ry
   subst ry
   obtain ⟨a, vs, rfl, ha, ra⟩ := rx
   simp only [gMul] at hg
   split at hg
   ·rename_i c
    cases hg
    simp only [Bool.and_eq_true, decide_eq_true_eq] at c
    exact .inr (.inr ⟨a, j, vs, rfl, rfl, o.lstAt ha, c.1.1, c.1.2, by rw [ra.length]; exact c.2, fun p hp => k.lst o (ra.rep _) hp⟩)
   ·cases hg
  | _ => cases hg
 | _ => cases e <;> cases hg
theorem sem_fdv {G : Gd} : Sem2 G (rI CDivW fun i j => .int (i / j)) gFdv := by
 intro B Fr S ρ σ H x y d e s Q o rx ry hg k
 obtain ⟨i, j, rfl, rfl⟩ : ∃ i j, d = .int i /\ e = .int j := by
  unfold gFdv at hg
  split at hg
  ·exact ⟨_, _, rfl, rfl⟩
  ·cases hg
 simp only [Rep] at rx ry
 subst rx ry
 simp only [gFdv] at hg
 split at hg
 ·rename_i c
  cases hg
  simp only [Bool.and_eq_true, decide_eq_true_eq] at c
  exact ⟨i, j, rfl, rfl, c, k.int o⟩
 ·cases hg
theorem sem_mod {G : Gd} : Sem2 G (rI (fun _ j => 0 < j) fun i j => .int (i % j)) gMod := by
 intro B Fr S ρ σ H x y d e s Q o rx ry hg k
 obtain ⟨i, j, rfl, rfl⟩ : ∃ i j, d = .int i /\ e = .int j := by
  unfold gMod at hg
  split at hg
  ·exact ⟨_, _, rfl, rfl⟩
  ·cases hg
 simp only [Rep] at rx ry
 subst rx ry
 simp only [gMod] at hg
 split at hg
 ·rename_i c
  cases hg
  exact ⟨i, j, rfl, rfl, of_decide_eq_true c, k.int o⟩
 ·cases hg
theorem sem_pow {G : Gd} : Sem2 G (rI CPow fun i j => .int (i ^ j.toNat)) gPow := by
 intro B Fr S ρ σ H x y d e s Q o rx ry hg k
 obtain ⟨i, j, rfl, rfl⟩ : ∃ i j, d = .int i /\ e = .int j := by
  unfold gPow at hg
  split at hg
  ·exact ⟨_, _, rfl, rfl⟩
  ·cases hg
 simp only [Rep] at rx ry
 subst rx ry
 simp only [gPow] at hg
 split at hg
 ·rename_i c
  cases hg
  simp only [Bool.and_eq_true, decide_eq_true_eq] at c
  exact ⟨i, j, rfl, rfl, ⟨c.1.1, c.1.2, c.2⟩, k.int o⟩
 ·cases hg
section
variable {X : Cx} {W : WX} {a b : Expr} {pos : Pos} {ma mb : ME -> MR}
theorem me_add (ha : PE X a (tM (gOf X) W ma)) (hb : PE X b (tM (gOf X) W mb)) : PE X (.BinOp a .Add b pos) (tM (gOf X) W (mOp gAdd ma mb)) := me_op op_addA sem_add ha hb
theorem me_sub (ha : PE X a (tM (gOf X) W ma)) (hb : PE X b (tM (gOf X) W mb)) : PE X (.BinOp a .Sub b pos) (tM (gOf X) W (mOp gSub ma mb)) := me_op op_sub sem_sub ha hb
theorem me_fdv (ha : PE X a (tM (gOf X) W ma)) (hb : PE X b (tM (gOf X) W mb)) : PE X (.BinOp a .FloorDiv b pos) (tM (gOf X) W (mOp gFdv ma mb)) := me_op op_fdivW sem_fdv ha hb
theorem me_mod (ha : PE X a (tM (gOf X) W ma)) (hb : PE X b (tM (gOf X) W mb)) : PE X (.BinOp a .Mod b pos) (tM (gOf X) W (mOp gMod ma mb)) := me_op op_mod sem_mod ha hb
theorem me_pow (ha : PE X a (tM (gOf X) W ma)) (hb : PE X b (tM (gOf X) W mb)) : PE X (.BinOp a .Pow b pos) (tM (gOf X) W (mOp gPow ma mb)) := me_op op_pow sem_pow ha hb
end
def AtH (G : Gd) (S H : Hp) (x : V) : D -> Prop
 | .lst ds => ∃ a vs, x = .ref a /\ SqL G.K H a vs /\ Reps G S vs ds
 | .tup ds => ∃ a vs, x = .ref a /\ SqT G.K H a vs /\ Reps G S vs ds
 | .ktp ds => ∃ a vs, x = .ref a /\ SqT G.K H a vs /\ Reps G S vs ds
 | .dK ks ds => ∃ a vs, x = .ref a /\ Rd H a (.dK (ks.zip vs)) /\ ks.length = vs.length /\ Reps G S vs ds
 | .dT ks ds => ∃ a vs, x = .ref a /\ Rd H a (.dT (ks.zip vs)) /\ ks.length = vs.length /\ Reps G S vs ds
 | .ins c ns ds => ∃ a C dx vs, x = .ref a /\ G.mg c = some (.ref C) /\ H a = some (.ins C dx (ns.zip vs)) /\ ns.length = vs.length /\ Reps G S vs ds
 | .non => Rep G S x .non
 | .bl b => Rep G S x (.bl b)
 | .int i => Rep G S x (.int i)
 | .str z => Rep G S x (.str z)
 | .kdc ks ds => Rep G S x (.kdc ks ds)
 | .scr ds => Rep G S x (.scr ds)
 | .exn => Rep G S x .exn
 | .exf ns ds => Rep G S x (.exf ns ds)
section
variable {G : Gd} {W : WX} {B : BxA} {Fr S : Hp} {ρ : ME} {σ : SV} {H : Hp} {Q : VK} {x : V} {d : D}
theorem Ok.at (h : Ok G B Fr S ρ σ H) (r : Rep G S x d) : AtH G S H x d := by
 cases d with
 | lst ds => simp only [Rep] at r; obtain ⟨a, vs, e, s, q⟩ := r; exact ⟨a, vs, e, SqL.of (h.lstAt s), q⟩
 | tup ds => simp only [Rep] at r; obtain ⟨a, vs, e, s, q⟩ := r; exact ⟨a, vs, e, SqT.of (h.tupAt s), q⟩
 | ktp ds => simp only [Rep] at r; obtain ⟨a, vs, e, s, q⟩ := r; exact ⟨a, vs, e, sqT_k s, q⟩
 | dK ks ds =>
  simp only [Rep] at r; obtain ⟨a, vs, e, s, l, q⟩ := r
  refine ⟨a, vs, e, ?_, l, q⟩
  rcases h.st a _ s with z | ⟨_, od, z, _⟩
  ·exact .inl z
  ·exact .inr ⟨od, z⟩
 | dT ks ds =>
  simp only [Rep] at r; obtain ⟨a, vs, e, s, l, q⟩ := r
  refine ⟨a, vs, e, ?_, l, q⟩
  rcases h.st a _ s with z | ⟨_, od, z, _⟩
  ·exact .inl z
  ·exact .inr ⟨od, z⟩
 | ins c ns ds =>
  simp only [Rep] at r; obtain ⟨a, C, dx, vs, e, m, s, l, q⟩ := r
  refine ⟨a, C, dx, vs, e, m, ?_, l, q⟩
  rcases h.st a _ s with z | ⟨z, _⟩
  ·exact z
  ·exact z.elim
 | _ => exact r
theorem Ok.atOwn (h : Ok G B Fr S ρ σ H) {a : Addr} {o : HO} (e : H a = some o) (r : RepO G S o d) : AtH G S H (.ref a) d := by
 cases d with
 | lst ds => obtain ⟨vs, rfl, q⟩ := r; exact ⟨a, vs, rfl, SqL.of e, q⟩
 | dK ks ds => obtain ⟨vs, rfl, l, q⟩ := r; exact ⟨a, vs, rfl, .inl e, l, q⟩
 | dT ks ds => obtain ⟨vs, rfl, l, q⟩ := r; exact ⟨a, vs, rfl, .inl e, l, q⟩
 | ins c ns ds => obtain ⟨C, dx, vs, m, rfl, l, q⟩ := r; exact ⟨a, C, dx, vs, rfl, m, e, l, q⟩
 | _ => exact r.elim
end
def slotD (ρ : ME) (i : Nat) : Option D := match ρ[i]? with
 | some (.v d) => some d
 | some (.own d) => some d
 | some (.box d) => some d
 | some (.bor _ d) => some d
 | _ => none
theorem Ok.slot {G : Gd} {B : BxA} {Fr S : Hp} {ρ : ME} {σ : SV} {H : Hp} {i : Nat} {d : D} (h : Ok G B Fr S ρ σ H) (e : slotD ρ i = some d) : ∃ x, σ[i]? = some (some x) /\ AtH G S H x d := by
 unfold slotD at e
 cases q : ρ[i]? with
 | none => rw [q] at e; cases e
 | some s =>
  rw [q] at e
  cases s with
  | no => cases e
  | v d' =>
   cases e
   obtain ⟨x, e1, r⟩ := h.vs i d q
   exact ⟨x, e1, h.at r⟩
  | own d' =>
   cases e
   obtain ⟨a, o, e1, e2, r, _⟩ := h.ow i _ d q rfl
   exact ⟨_, e1, h.atOwn e2 r⟩
  | box d' =>
   cases e
   obtain ⟨a, o, e1, e2, r, _⟩ := h.ow i _ d q rfl
   exact ⟨_, e1, h.atOwn e2 r⟩
  | bor k d' =>
   cases e
   obtain ⟨a, o, e1, e2, r, _⟩ := h.ow i _ d q rfl
   exact ⟨_, e1, h.atOwn e2 r⟩
  | pt k => cases e
  | hp cs => cases e
def mVar (i : Nat) : ME -> MR := fun ρ => match ρ[i]? with
 | some (.v d) => .ok (.v d, ρ)
 | some (.own d) => .ok (.v d, ρ.set i (.v d))
 | _ => .stuck
def mC (d : D) : ME -> MR := fun ρ => .ok (.v d, ρ)
section
variable {X : Cx} {W : WX} {pos : Pos}
theorem sem_var {G : Gd} {i : Nat} {σ : SV} {H : Hp} {Q : VK} (h : tM G W (mVar i) σ H Q) : tVar i σ H Q := by
 obtain ⟨B, Fr, S, ρ, o, c⟩ := h
 unfold mVar at c
 cases q : ρ[i]? with
 | none => rw [q] at c; exact c.elim
 | some s =>
  rw [q] at c
  cases s with
  | no => exact c.elim
  | pt _ => exact c.elim
  | bor _ _ => exact c.elim
  | hp _ => exact c.elim
  | v d =>
   obtain ⟨x, e1, r⟩ := o.vs i d q
   exact ⟨x, e1, c x S H Ext.refl (o.push r)⟩
  | own d =>
   obtain ⟨a, S', e1, e2, o2, r⟩ := o.freeze q rfl
   exact ⟨.ref a, e1, c _ S' H e2 (o2.push r)⟩
  | box d => exact c.elim
theorem me_var {x : Str} (i : Nat) (hN : X.N[i]? = some x := by rfl) (hv : Vis X.env.scope x := by first | exact Or.inl rfl | exact Or.inr (Or.inl rfl) | exact Or.inr (Or.inr rfl)) (hd : (x == ("__debug__" : Str)) = false := by decide)
    (hcd : (x == ("__classdict__" : Str)) = false := by decide) : PE X (.Name x pos) (tM (gOf X) W (mVar i)) := PE.imp (pe_var hN hv hd hcd) fun _ _ _ h => sem_var h
theorem sem_c {G : Gd} {v : V} {d : D} (r : ∀ S, Rep G S v d) {σ : SV} {H : Hp} {Q : VK} (h : tM G W (mC d) σ H Q) : tC v σ H Q := by
 obtain ⟨B, Fr, S, ρ, o, c⟩ := h
 exact c v S H Ext.refl (o.push (r S))
theorem me_int {i : Int} {j : Nat} : PE X (.Constant (.int i) j pos) (tM (gOf X) W (mC (.int i))) := PE.imp pe_int fun _ _ _ h => sem_c (fun _ => by simp only [Rep]) h
theorem me_bl {b : Bool} {j : Nat} : PE X (.Constant (.bool b) j pos) (tM (gOf X) W (mC (.bl b))) := PE.imp pe_bl fun _ _ _ h => sem_c (fun _ => by simp only [Rep]) h
theorem me_non {j : Nat} : PE X (.Constant .none j pos) (tM (gOf X) W (mC .non)) := PE.imp pe_non fun _ _ _ h => sem_c (fun _ => by simp only [Rep]) h
theorem me_str {x : Str} {j : Nat} : PE X (.Constant (.str x) j pos) (tM (gOf X) W (mC (.str x))) := PE.imp pe_str fun _ _ _ h => sem_c (fun _ => by simp only [Rep]) h
def KC (G : Gd) (x : Str) (d : D) : Prop := ∃ v u, G.mg x = some u /\ RelV v u /\ ∀ S, Rep G S v d
theorem me_glob {x : Str} {d : D} (h : KC (gOf X) x d) (hg : Gl X x) (hd : (x == ("__debug__" : Str)) = false := by decide) : PE X (.Name x pos) (tM (gOf X) W (mC d)) := by
 obtain ⟨v, u, hm, r, q⟩ := h
 exact PE.imp (pe_glob hg hm r hd) fun _ _ _ h => sem_c q h
end
def mNeg (ma : ME -> MR) : ME -> MR := fun ρ => frz (ma ρ) fun d ρ1 => match d with
 | .int i => .ok (.v (.int (-i)), ρ1)
 | _ => .stuck
abbrev ML := Res (List D × ME)
def mNil : ME -> ML := fun ρ => .ok ([], ρ)
def frzL (r : MR) (f : D -> ME -> ML) : ML := match r with
 | .ok (.v d, ρ) => f d ρ
 | .ok (.own d, ρ) => f d ρ
 | .ok _ => .stuck
 | .err c ρ => .err c ρ
 | .stuck => .stuck
def mCons (m : ME -> MR) (ms : ME -> ML) : ME -> ML := fun ρ => frzL (m ρ) fun d ρ1 => bnd (ms ρ1) fun p => .ok (d :: p.1, p.2)
section
variable (G : Gd) (W : WX)
def ContL (B : BxA) (Fr S : Hp) (σ : SV) (Q : List V -> Hp -> Prop) : ML -> Prop
 | .ok (ds, ρ) => ∀ xs S' H', Ext Fr S S' -> Ok G B Fr S' ρ σ H' -> Reps G S' xs ds -> Q xs H'
 | .err c ρ => ∀ S' H', Ext Fr S S' -> Ok G B Fr S' ρ σ H' -> ∀ C, G.mg c.nm = some (.ref C) -> ∀ dd, ErrD G S' H' c dd -> W (.ref C) dd σ H'
 | .stuck => False
def tMs (m : ME -> ML) : TA := fun σ H Q => ∃ B Fr S ρ, Ok G B Fr S ρ σ H /\ ContL G W B Fr S σ Q (m ρ)
end
section
variable {G : Gd} {W : WX} {B : BxA} {Fr S S' : Hp} {ρ : ME} {σ : SV} {H : Hp} {Q : List V -> Hp -> Prop} {P : V -> Hp -> Prop}
theorem ContL.mono {r : ML} (h : ContL G W B Fr S σ Q r) (e : Ext Fr S S') : ContL G W B Fr S' σ Q r := by
 cases r with
 | ok p => exact fun x S2 H2 e2 o => h x S2 H2 (e.trans e2) o
 | err c ρ => exact fun S2 H2 e2 o => h S2 H2 (e.trans e2) o
 | stuck => exact h
theorem opndL {m : ME -> MR} {f : D -> ME -> ML} (h : Ok G B Fr S ρ σ H) (hc : ContL G W B Fr S σ Q (frzL (m ρ) f))
    (k : ∀ d ρ1 x S1 H1, Ext Fr S S1 -> Ok G B Fr S1 ρ1 σ H1 -> Rep G S1 x d -> ContL G W B Fr S1 σ Q (f d ρ1) -> P x H1) : tM G W m σ H P := by
  refine ⟨B, Fr, S, ρ, h, ?_⟩
  cases e : m ρ with
  | ok p =>
    obtain ⟨s, ρ1⟩ := p
    intro x S1 H1 e1 o
    rw [e] at hc
    cases s with
    | v d =>
      obtain ⟨x', q1, q2⟩ := o.vs 0 d rfl
      have q3 : x = x' := by simpa using q1
      subst q3
      exact k d ρ1 x S1 H1 e1 o.tail q2 (ContL.mono (show ContL G W B Fr S σ Q (f d ρ1) from hc) e1)
    | own d =>
      obtain ⟨y, S2, q1, e2, o2, r⟩ := o.freezeTop
      cases q1
      exact k d ρ1 x S2 H1 (e1.trans e2) o2 r (ContL.mono (show ContL G W B Fr S σ Q (f d ρ1) from hc) (e1.trans e2))
    | no => exact hc.elim
    | pt _ => exact hc.elim
    | bor _ _ => exact hc.elim
    | hp _ => exact hc.elim
    | box d => exact hc.elim
  | err c ρ1 =>
    rw [e] at hc
    exact hc
  | stuck =>
    rw [e] at hc
    exact hc
theorem args {m : ME -> ML} {f : List D × ME -> MR} {Q : VK} {P : List V -> Hp -> Prop} (h : Ok G B Fr S ρ σ H) (hc : Cont G W B Fr S σ Q (bnd (m ρ) f))
    (k : ∀ ds ρ1 xs S1 H1, Ext Fr S S1 -> Ok G B Fr S1 ρ1 σ H1 -> Reps G S1 xs ds -> Cont G W B Fr S1 σ Q (f (ds, ρ1)) -> P xs H1) : tMs G W m σ H P := by
  refine ⟨B, Fr, S, ρ, h, ?_⟩
  cases e : m ρ with
  | ok p =>
    obtain ⟨ds, ρ1⟩ := p
    intro xs S1 H1 e1 o r
    rw [e] at hc
    exact k ds ρ1 xs S1 H1 e1 o r (Cont.mono hc e1)
  | err c ρ1 =>
    rw [e] at hc
    exact hc
  | stuck =>
    rw [e] at hc
    exact hc
end
section
variable {X : Cx} {W : WX} {pos : Pos}
theorem ma_nil : PA X [] (tMs (gOf X) W mNil) := ⟨fun pos pins s σ H Q I h => pa_nil.run pos pins s σ H Q I (by
 obtain ⟨B, Fr, S, ρ, o, c⟩ := h
 exact c [] S H Ext.refl o Reps.nil)⟩
theorem ma_cons {e : Expr} {es : List Expr} {m : ME -> MR} {ms : ME -> ML} (he : PE X e (tM (gOf X) W m)) (hs : PA X es (tMs (gOf X) W ms)) (hst : starEach (e :: es) X.env = (false, eval e X.env) :: starEach es X.env := by rfl) :
    PA X (e :: es) (tMs (gOf X) W (mCons m ms)) := ⟨fun pos pins s σ H Q I h => (pa_cons he hs hst).run pos pins s σ H Q I (by
  obtain ⟨B, Fr, S, ρ, o, c⟩ := h
  refine opndL o c fun d ρ1 x S1 H1 e1 o1 r1 c1 => ⟨B, Fr, S1, ρ1, o1, ?_⟩
  cases q : ms ρ1 with
  | ok p =>
    obtain ⟨ds, ρ2⟩ := p
    intro xs S2 H2 e2 o2 r2
    rw [q] at c1
    exact c1 (x :: xs) S2 H2 e2 o2 (Reps.cons (r1.mono e2.same) r2)
  | err c ρ2 =>
    rw [q] at c1
    exact c1
  | stuck =>
    rw [q] at c1
    exact c1)⟩
end
def LenIs (ms : ME -> ML) (n : Nat) : Prop := ∀ ρ ds ρ', ms ρ = .ok (ds, ρ') -> ds.length = n
theorem lenIs_nil : LenIs mNil 0 := fun ρ ds ρ' h => by cases h; rfl
theorem lenIs_cons {m : ME -> MR} {ms : ME -> ML} {n : Nat} (h : LenIs ms n) : LenIs (mCons m ms) (n + 1) := fun ρ ds ρ' e => by
 unfold mCons frzL at e
 split at e <;> first | cases e | skip
 all_goals
  dsimp only at e
  cases q : ms ‹ME› with
  | ok p =>
   rw [q] at e
   cases e
   rw [List.length_cons, h _ p.1 p.2 q]
  | err c ρ => rw [q] at e; cases e
  | stuck => rw [q] at e; cases e
def mTup (ms : ME -> ML) : ME -> MR := fun ρ => bnd (ms ρ) fun p => .ok (.v (.tup p.1), p.2)
def mLst (ms : ME -> ML) : ME -> MR := fun ρ => bnd (ms ρ) fun p => .ok (.own (.lst p.1), p.2)
section
variable {X : Cx} {W : WX} {pos : Pos} {es : List Expr} {ms : ME -> ML} {n : Nat}
theorem args' {G : Gd} {B : BxA} {Fr S : Hp} {ρ : ME} {σ : SV} {H : Hp} {m : ME -> ML} {n : Nat} (hl : LenIs m n) {f : List D × ME -> MR} {Q : VK} {P : List V -> Hp -> Prop} (h : Ok G B Fr S ρ σ H) (hc : Cont G W B Fr S σ Q (bnd (m ρ) f))
    (k : ∀ ds ρ1 xs S1 H1, Ext Fr S S1 -> Ok G B Fr S1 ρ1 σ H1 -> Reps G S1 xs ds -> ds.length = n -> Cont G W B Fr S1 σ Q (f (ds, ρ1)) -> P xs H1) : tMs G W m σ H P := by
  refine ⟨B, Fr, S, ρ, h, ?_⟩
  cases e : m ρ with
  | ok p =>
    obtain ⟨ds, ρ1⟩ := p
    intro xs S1 H1 e1 o r
    rw [e] at hc
    exact k ds ρ1 xs S1 H1 e1 o r (hl _ _ _ e) (Cont.mono hc e1)
  | err c ρ1 =>
    rw [e] at hc
    exact hc
  | stuck =>
    rw [e] at hc
    exact hc
theorem me_tup {k : Nat} (hs : PA X es (tMs (gOf X) W ms)) (hl : LenIs ms n) (hn : n ≤ 1000 := by decide) : PE X (.Tuple es k pos) (tM (gOf X) W (mTup ms)) := by
 refine PE.imp (pe_tup hs) fun σ H Q h => ?_
 obtain ⟨B, Fr, S, ρ, o, c⟩ := h
 refine args' hl o c fun ds ρ1 xs S1 H1 e1 o1 r1 l1 c1 => ?_
 have hz : sizeLine = 16777216 := sizeLine_eq
 exact ⟨by rw [r1.length]; omega, fun p hp => Wants.tup c1 o1 r1 hp⟩
theorem me_lst (hs : PA X es (tMs (gOf X) W ms)) (hl : LenIs ms n) (hn : n ≤ 1000 := by decide) : PE X (.List es pos) (tM (gOf X) W (mLst ms)) := by
 refine PE.imp (pe_lst hs) fun σ H Q h => ?_
 obtain ⟨B, Fr, S, ρ, o, c⟩ := h
 refine args' hl o c fun ds ρ1 xs S1 H1 e1 o1 r1 l1 c1 => ?_
 have hz : sizeLine = 16777216 := sizeLine_eq
 exact ⟨by rw [r1.length]; omega, fun p hp => Wants.lst c1 o1 r1 hp⟩
end
section
variable {κ : Type} [DecidableEq κ]
def valD : List κ -> List D -> κ -> Option D
 | k' :: ks, v :: vs, k => if k' = k then some v else valD ks vs k
 | _, _, _ => none
theorem valD_some {G : Gd} {S : Hp} : ∀ {ks : List κ} {vs : List V} {ds : List D} {k : κ} {d : D}, Reps G S vs ds -> valD ks ds k = some d -> ∃ x, valV (ks.zip vs) k = some x /\ Rep G S x d
 | [], vs, ds, k, d, r, e => by cases ds <;> cases e
 | k' :: ks, vs, [], k, d, r, e => by cases e
 | k' :: ks, vs, d' :: ds, k, d, r, e => by
  simp only [Reps] at r
  obtain ⟨v, vr, rfl, h, r⟩ := r
  show ∃ x, valV ((k', v) :: ks.zip vr) k = some x /\ Rep G S x d
  unfold valD at e
  split at e
  ·rename_i q
   cases e
   exact ⟨v, valV_pos q, h⟩
  ·rename_i q
   rw [valV_neg q]
   exact valD_some r e
theorem valD_none {G : Gd} {S : Hp} : ∀ {ks : List κ} {vs : List V} {ds : List D} {k : κ}, Reps G S vs ds -> valD ks ds k = none -> valV (ks.zip vs) k = none
 | [], vs, ds, k, r, e => by cases vs <;> rfl
 | k' :: ks, vs, [], k, r, e => by
  simp only [Reps] at r
  subst r
  rfl
 | k' :: ks, vs, d' :: ds, k, r, e => by
  simp only [Reps] at r
  obtain ⟨v, vr, rfl, h, r⟩ := r
  show valV ((k', v) :: ks.zip vr) k = none
  unfold valD at e
  split at e
  ·cases e
  ·rename_i q
   rw [valV_neg q]
   exact valD_none r e
theorem valD_get {G : Gd} {S : Hp} {ks : List κ} {vs : List V} {ds : List D} {k : κ} (r : Reps G S vs ds) : (valV (ks.zip vs) k).isSome = (valD ks ds k).isSome := by
 cases e : valD ks ds k with
 | none => rw [valD_none r e]; rfl
 | some d =>
  obtain ⟨x, q, _⟩ := valD_some r e
  rw [q]; rfl
end
def key? : D -> Option Key
 | .int i => some (.inl i)
 | .str x => some (.inr x)
 | _ => none
def keys? : List D -> Option (List Key)
 | [] => some []
 | d :: ds => match key? d, keys? ds with
  | some k, some ks => some (k :: ks)
  | _, _ => none
theorem rep_key {G : Gd} {S : Hp} {x : V} {d : D} {k : Key} (r : Rep G S x d) (e : key? d = some k) : x = kV k := by
 cases d with
 | int i => cases e; simp only [Rep] at r; exact r
 | str i => cases e; simp only [Rep] at r; exact r
 | _ => cases e
theorem reps_keys {G : Gd} {S : Hp} : ∀ {xs : List V} {ds : List D} {ks : List Key}, Reps G S xs ds -> keys? ds = some ks -> xs = ks.map kV
 | xs, [], ks, r, e => by
  simp only [Reps] at r
  cases e
  exact r
 | xs, d :: ds, ks, r, e => by
  simp only [Reps] at r
  obtain ⟨v, vr, rfl, h, r⟩ := r
  unfold keys? at e
  split at e
  ·rename_i k ks' e1 e2
   cases e
   rw [rep_key h e1, reps_keys r e2]; rfl
  ·cases e
section
variable {X : Cx} {pins : List (Addr × Obj)} {σ : L2.St} {H : Hp} {s : Shared} {a : Addr} {u : Value} {A : Around} {E : Value -> Shared -> Prop} {kvs : List (Key × V)} {k : Key}
theorem kdic_at (I : Inv X pins σ H s) (h : KDic (gOf X) a kvs) : (a == sysModules) = false /\ ∃ us, s.heap.DictOf (mixKind X.prog X.w) a us /\ KV kvs us := by
 obtain ⟨h1, _, o, es, ep, us, h2, h3, h4, h5, h6, h7, h8⟩ := h
 exact ⟨h1, us, ⟨o, es, ep, I.kIn a o h2, h3, h4, h5, h6, h7⟩, h8⟩
theorem kd_getItem {v : V} {Q : Value -> Shared -> Prop} (I : Inv X pins σ H s) (g : KDic (gOf X) a kvs) (l : valV kvs k = some v) (ry : RelV (kV k) u) (h : ∀ w' s', Inv X pins σ H s' -> RelV v w' -> Q w' s') :
    wpAny (model X.prog X.w) A (getItem (.ref a) u) Q E s := by
  obtain ⟨hd, vs, dd, rel⟩ := kdic_at I g
  obtain ⟨w', hw, rw'⟩ := RelO.some_of (v := v) (o := valueAt vs k) (by rw [<- l]; exact rel.val k)
  exact wpAny_getItem_of (kV_is ry) dd.mapOf hw (h w' _ (I.tok _) rw')
theorem kd_in {Q : Value -> Shared -> Prop} (I : Inv X pins σ H s) (g : KDic (gOf X) a kvs) (ry : RelV (kV k) u) (h : ∀ s', Inv X pins σ H s' -> Q (.bool (valV kvs k).isSome) s') :
    wpAny (model X.prog X.w) A (compareOp .In u (.ref a)) Q E s := by
  obtain ⟨hd, vs, dd, rel⟩ := kdic_at I g
  refine wpAny_in_of (kV_is ry) hd dd.mapOf ?_
  rw [<- (rel.val k).isSome_eq]
  exact h _ (I.tok _)
theorem kd_notIn {Q : Value -> Shared -> Prop} (I : Inv X pins σ H s) (g : KDic (gOf X) a kvs) (ry : RelV (kV k) u) (h : ∀ s', Inv X pins σ H s' -> Q (.bool (!(valV kvs k).isSome)) s') :
    wpAny (model X.prog X.w) A (compareOp .NotIn u (.ref a)) Q E s := by
  obtain ⟨hd, vs, dd, rel⟩ := kdic_at I g
  refine wpAny_notIn_of (kV_is ry) hd dd.mapOf ?_
  rw [<- (rel.val k).isSome_eq]
  exact h _ (I.tok _)
theorem kd_typeIs (I : Inv X pins σ H s) (g : KDic (gOf X) a kvs) : s.TypeIs (.ref a) "dict" := by
 obtain ⟨_, vs, dd, _⟩ := kdic_at I g
 exact dd.typeIs
end
theorem dict_tail {X : Cx} {pins : List (Addr × Obj)} {σ : L2.St} {s : Shared} {value slice : Expr} {a : Addr} {u : Value} {Q : VK} (ht : s.TypeIs (.ref a) "dict")
    (hs : subscripted slice false (.ref a) u = operate [.ref a, u] (getItem (.ref a) u)) (h : wpAny (model X.prog X.w) X.A (getItem (.ref a) u) (EP X pins σ Q) X.xe s) :
    wpAny (model X.prog X.w) X.A (subscriptTail value slice (.ref a) u) (EP X pins σ Q) X.xe s := tail_any ht PySem.F.slot_dict_getitem.lookup h hs
def rIxDic : R2 := fun x y H Q => ∃ a v, x = .ref a /\ DGet H a y (some v) /\ Q v H
theorem ix_dic {X : Cx} (hu : X.A.units + 1 < cLine) : IxR X rIxDic := by
 intro value slice pins s σ H x y v u Q I rx ry h hs
 obtain ⟨a, w, rfl, g, q⟩ := h
 cases rx
 exact dict_tail (dict_typeIs I g) hs (d_getItem hu I g ry fun w' s' I' r' => ⟨w, H, I', r', q⟩)
def rIxKd (G : Gd) : R2 := fun x y H Q => ∃ a kvs k v, x = .ref a /\ y = kV k /\ KDic G a kvs /\ valV kvs k = some v /\ Q v H
theorem ix_kd {X : Cx} : IxR X (rIxKd (gOf X)) := by
 intro value slice pins s σ H x y v u Q I rx ry h hs
 obtain ⟨a, kvs, k, w, rfl, rfl, g, l, q⟩ := h
 cases rx
 exact dict_tail (kd_typeIs I g) hs (kd_getItem I g l ry fun w' s' I' r' => ⟨w, H, I', r', q⟩)
def gIx : D -> D -> Option D
 | .tup ds, .int i => atI ds i
 | .ktp ds, .int i => atI ds i
 | .lst ds, .int i => atI ds i
 | .str z, .int i => if z.length ≤ sizeLine then (atI z.cps.toList i).map fun c => D.str ⟨#[c]⟩ else none
 | .kdc ks vs, k => (key? k).bind (valD ks vs)
 | .dK ks vs, k => (key? k).bind (valD ks vs)
 | .dT ks vs, .tup k => (keys? k).bind (valD ks vs)
 | _, _ => none
def rIxA (G : Gd) : R2 := fun x y H Q => rIx G.K x y H Q \/ rIxDic x y H Q \/ rIxKd G x y H Q
theorem ix_A {X : Cx} (hu : X.A.units + 1 < cLine) : IxR X (rIxA (gOf X)) := IxR.or ix_seq (IxR.or (ix_dic hu) ix_kd)
theorem reps_atI {G : Gd} {S : Hp} {vs : List V} {ds : List D} {i : Int} {d : D} (r : Reps G S vs ds) (e : atI ds i = some d) : ∃ v, atI vs i = some v /\ Rep G S v d := by
 unfold atI at e ⊢
 rw [r.length]
 cases q : ixN ds.length i with
 | none => rw [q] at e; cases e
 | some j =>
  rw [q] at e
  exact r.get e
theorem sem_ix {G : Gd} {B : BxA} {Fr S : Hp} {ρ : ME} {σ : SV} {H : Hp} {x y : V} {d e f : D} {Q : VK} (o : Ok G B Fr S ρ σ H) (rx : AtH G S H x d) (ry : Rep G S y e) (hg : gIx d e = some f) (k : Wants G B Fr S ρ σ Q (.v f)) : rIxA G x y H Q := by
 cases d with
 | tup ds =>
  cases e with
  | int i =>
   obtain ⟨a, vs, rfl, h, r⟩ := rx
   simp only [Rep] at ry
   obtain ⟨v, e1, r1⟩ := reps_atI r hg
   exact .inl (.inr (.inl ⟨a, vs, i, v, rfl, ry, h, e1, k.rep o r1⟩))
  | _ => cases hg
 | ktp ds =>
  cases e with
  | int i =>
   obtain ⟨a, vs, rfl, h, r⟩ := rx
   simp only [Rep] at ry
   obtain ⟨v, e1, r1⟩ := reps_atI r hg
   exact .inl (.inr (.inl ⟨a, vs, i, v, rfl, ry, h, e1, k.rep o r1⟩))
  | _ => cases hg
 | lst ds =>
  cases e with
  | int i =>
   obtain ⟨a, vs, rfl, h, r⟩ := rx
   simp only [Rep] at ry
   obtain ⟨v, e1, r1⟩ := reps_atI r hg
   exact .inl (.inl ⟨a, vs, i, v, rfl, ry, h, e1, k.rep o r1⟩)
  | _ => cases hg
 | str z =>
  cases e with
  | int i =>
   simp only [AtH, Rep] at rx ry
   simp only [gIx] at hg
   split at hg
   ·cases q : atI z.cps.toList i with
    | none => rw [q] at hg; cases hg
    | some c =>
     rw [q] at hg
     cases hg
     exact .inl (.inr (.inr ⟨z, i, c, rx, ry, by assumption, q, k.str o⟩))
   ·cases hg
  | _ => cases hg
 | kdc ks vs =>
  simp only [AtH, Rep] at rx
  obtain ⟨a, ws, rfl, h, l, r⟩ := rx
  have hg' : (key? e).bind (valD ks vs) = some f := by cases e <;> exact hg
  cases q : key? e with
  | none => rw [q] at hg'; cases hg'
  | some ky =>
   rw [q] at hg'
   obtain ⟨v, e1, r1⟩ := valD_some r hg'
   exact .inr (.inr ⟨a, _, ky, v, rfl, rep_key ry q, h, e1, k.rep o r1⟩)
 | dK ks vs =>
  obtain ⟨a, ws, rfl, h, l, r⟩ := rx
  have hg' : (key? e).bind (valD ks vs) = some f := by cases e <;> exact hg
  cases q : key? e with
  | none => rw [q] at hg'; cases hg'
  | some ky =>
   rw [q] at hg'
   obtain ⟨v, e1, r1⟩ := valD_some r hg'
   exact .inr (.inl ⟨a, v, rfl, .inl ⟨_, ky, h, rep_key ry q, e1.symm⟩, k.rep o r1⟩)
 | dT ks vs =>
  cases e with
  | tup kd =>
   obtain ⟨a, ws, rfl, h, l, r⟩ := rx
   have hg' : (keys? kd).bind (valD ks vs) = some f := hg
   cases q : keys? kd with
   | none => rw [q] at hg'; cases hg'
   | some ky =>
    rw [q] at hg'
    obtain ⟨v, e1, r1⟩ := valD_some r hg'
    simp only [Rep] at ry
    obtain ⟨b, us, rfl, hb, rb⟩ := ry
    have e2 := reps_keys rb q
    subst e2
    exact .inr (.inl ⟨a, v, rfl, .inr ⟨_, ky, b, h, rfl, o.tupAt hb, e1.symm⟩, k.rep o r1⟩)
  | _ => cases hg
 | _ => cases e <;> cases hg
def mIx (ma mb : ME -> MR) : ME -> MR := fun ρ => frz (ma ρ) fun d ρ1 => frz (mb ρ1) fun e ρ2 => match gIx d e with
 | some f => .ok (.v f, ρ2)
 | none => .stuck
def mIxV (i : Nat) (mb : ME -> MR) : ME -> MR := fun ρ => match slotD ρ i with
 | none => .stuck
 | some _ => frz (mb ρ) fun e ρ2 => match (slotD ρ2 i).bind fun d => gIx d e with
  | some f => .ok (.v f, ρ2)
  | none => .stuck
section
variable {X : Cx} {W : WX} {a b : Expr} {pos p1 : Pos} {ma mb : ME -> MR}
theorem me_ix (hu : X.A.units + 1 < cLine) (ha : PE X a (tM (gOf X) W ma)) (hb : PE X b (tM (gOf X) W mb)) (hs : PlainIx b := by intro _ _; rfl) : PE X (.Subscript a b pos) (tM (gOf X) W (mIx ma mb)) := by
 refine PE.imp (pe_ix (ix_A hu) ha hb hs) fun σ H Q h => ?_
 obtain ⟨B, Fr, S, ρ, o, c⟩ := h
 refine opnd o c fun d ρ1 x S1 H1 e1 o1 r1 c1 => opnd o1 c1 fun e ρ2 y S2 H2 e2 o2 r2 c2 => ?_
 cases q : gIx d e with
 | none => rw [q] at c2; exact c2.elim
 | some f =>
  rw [q] at c2
  exact sem_ix o2 (o2.at (r1.mono e2.same)) r2 q c2
theorem me_ixV {x : Str} (hu : X.A.units + 1 < cLine) (i : Nat) (hb : PE X b (tM (gOf X) W mb)) (hs : PlainIx b := by intro _ _; rfl) (hN : X.N[i]? = some x := by rfl) (hv : Vis X.env.scope x := by first | exact Or.inl rfl | exact Or.inr (Or.inl rfl) | exact Or.inr (Or.inr rfl))
    (hd : (x == ("__debug__" : Str)) = false := by decide) (hcd : (x == ("__classdict__" : Str)) = false := by decide) : PE X (.Subscript (.Name x p1) b pos) (tM (gOf X) W (mIxV i mb)) := by
  refine PE.imp (pe_ix (ix_A hu) (pe_var hN hv hd hcd) hb hs) fun σ H Q h => ?_
  obtain ⟨B, Fr, S, ρ, o, c⟩ := h
  unfold mIxV at c
  cases q0 : slotD ρ i with
  | none => rw [q0] at c; exact c.elim
  | some d0 =>
    rw [q0] at c
    obtain ⟨x, ex, _⟩ := o.slot q0
    refine ⟨x, ex, opnd o c fun e ρ2 y S2 H2 e2 o2 r2 c2 => ?_⟩
    cases q1 : slotD ρ2 i with
    | none => rw [q1] at c2; exact c2.elim
    | some d =>
      rw [q1] at c2
      obtain ⟨x', ex', hx⟩ := o2.slot q1
      have exx : x' = x := by rw [ex] at ex'; cases ex'; rfl
      subst exx
      have c3 : Cont (gOf X) W B Fr S2 σ Q (match gIx d e with | some f => .ok (.v f, ρ2) | none => .stuck) := c2
      cases q : gIx d e with
      | none => rw [q] at c3; exact c3.elim
      | some f =>
        rw [q] at c3
        exact sem_ix o2 hx r2 q c3
end
def cutD (ds : List D) (lo hi : Option Int) : List D := (ds.drop (HT.sIx ds.length 0 lo)).take (HT.sIx ds.length ds.length hi - HT.sIx ds.length 0 lo)
theorem Reps.drop {G : Gd} {S : Hp} : ∀ (n : Nat) {vs : List V} {ds : List D}, Reps G S vs ds -> Reps G S (vs.drop n) (ds.drop n)
 | 0, vs, ds, r => by simpa using r
 | n + 1, vs, [], r => by
  simp only [Reps] at r
  subst r
  exact Reps.nil
 | n + 1, vs, d :: ds, r => by
  simp only [Reps] at r
  obtain ⟨v, vr, rfl, h, r⟩ := r
  exact Reps.drop n r
theorem Reps.take {G : Gd} {S : Hp} : ∀ (n : Nat) {vs : List V} {ds : List D}, Reps G S vs ds -> Reps G S (vs.take n) (ds.take n)
 | 0, vs, ds, r => by simpa using (Reps.nil : Reps G S [] [])
 | n + 1, vs, [], r => by
  simp only [Reps] at r
  subst r
  exact Reps.nil
 | n + 1, vs, d :: ds, r => by
  simp only [Reps] at r
  obtain ⟨v, vr, rfl, h, r⟩ := r
  exact Reps.cons h (Reps.take n r)
theorem Reps.cut {G : Gd} {S : Hp} {vs : List V} {ds : List D} (r : Reps G S vs ds) (lo hi : Option Int) : Reps G S (cutV vs lo hi) (cutD ds lo hi) := by
 unfold cutV cutD
 rw [r.length]
 exact (r.drop _).take _
def gSl : D -> Option Int -> Option Int -> Option Slot
 | .lst ds, lo, hi => some (.own (.lst (cutD ds lo hi)))
 | .tup ds, lo, hi => some (.v (.tup (cutD ds lo hi)))
 | .str z, lo, hi => if z.length ≤ sizeLine then some (.v (.str (cutS z lo hi))) else none
 | .scr ds, lo, hi => some (.own (.lst (cutD ds lo hi)))
 | _, _, _ => none
def rSlAll (K : PySem.W.Frag) : V -> Option Int -> Option Int -> Hp -> VK -> Prop := fun x lo hi H Q => rSlL K x lo hi H Q \/ rSlA K x lo hi H Q \/ rSlS x lo hi H Q
theorem sl_all {X : Cx} : SlR X (rSlAll X.K) := SlR.or sl_list (SlR.or sl_tupA sl_str)
theorem sem_sl {G : Gd} {B : BxA} {Fr S : Hp} {ρ : ME} {σ : SV} {H : Hp} {x : V} {d : D} {lo hi : Option Int} {s : Slot} {Q : VK} (o : Ok G B Fr S ρ σ H) (rx : AtH G S H x d) (hr : ∀ ds, d = .tup ds -> Rep G S x d) (hg : gSl d lo hi = some s) (k : Wants G B Fr S ρ σ Q s) :
    rSlAll G.K x lo hi H Q := by
  cases d with
  | lst ds =>
    cases hg
    obtain ⟨a, vs, rfl, h, r⟩ := rx
    exact .inl ⟨a, vs, rfl, h, fun p hp => k.lst o (r.cut lo hi) hp⟩
  | tup ds =>
    cases hg
    obtain ⟨a, vs, rfl, h, r⟩ := rx
    refine .inr (.inl ⟨a, vs, rfl, h, fun e => ?_, fun _ p hp => k.tup o (r.cut lo hi) hp⟩)
    have q := hr ds rfl
    have e2 : cutD ds lo hi = ds := by
      unfold cutD
      rw [<- r.length, e.1, e.2]
      simp [r.length]
    rw [e2] at k
    exact k.rep o q
  | str z =>
    simp only [gSl] at hg
    split at hg
    · cases hg
      simp only [AtH, Rep] at rx
      exact .inr (.inr ⟨z, rx, by assumption, k.str o⟩)
    · cases hg
  | scr ds =>
    cases hg
    simp only [AtH, Rep] at rx
    obtain ⟨a, vs, rfl, hs, r⟩ := rx
    have hH : SqL G.K H a vs := by
      rcases hs with (e | ⟨ob, e⟩) | e
      · exact .inl (.inl (o.lstAt e))
      · rcases o.st a _ e with z | ⟨z, _⟩
        · exact .inl (.inr ⟨ob, z⟩)
        · exact z.elim
      · exact .inr e
    exact .inl ⟨a, vs, rfl, hH, fun p hp => k.lst o (r.cut lo hi) hp⟩
  | _ => cases hg
def mPart (m : ME -> MR) : ME -> Res (Option Int × ME) := fun ρ => match m ρ with
 | .ok (.v (.int i), ρ1) => .ok (some i, ρ1)
 | .ok _ => .stuck
 | .err c ρ1 => .err c ρ1
 | .stuck => .stuck
def mNoPart : ME -> Res (Option Int × ME) := fun ρ => .ok (none, ρ)
section
variable (G : Gd) (W : WX)
def ContO (B : BxA) (Fr S : Hp) (σ : SV) (Q : Option Int -> Hp -> Prop) : Res (Option Int × ME) -> Prop
 | .ok (i, ρ) => ∀ S' H', Ext Fr S S' -> Ok G B Fr S' ρ σ H' -> Q i H'
 | .err c ρ => ∀ S' H', Ext Fr S S' -> Ok G B Fr S' ρ σ H' -> ∀ C, G.mg c.nm = some (.ref C) -> ∀ dd, ErrD G S' H' c dd -> W (.ref C) dd σ H'
 | .stuck => False
def tMo (m : ME -> Res (Option Int × ME)) : TO := fun σ H Q => ∃ B Fr S ρ, Ok G B Fr S ρ σ H /\ ContO G W B Fr S σ Q (m ρ)
end
section
variable {X : Cx} {W : WX} {e : Expr} {m : ME -> MR}
theorem PO.imp {o : Option Expr} {t t' : TO} (h : PO X o t) (hi : ∀ σ H Q, t' σ H Q -> t σ H Q) : PO X o t' := ⟨fun pins s σ H Q I q => h.run pins s σ H Q I (hi σ H Q q)⟩
theorem mo_none : PO X none (tMo (gOf X) W mNoPart) := PO.imp po_none fun σ H Q h => by
 obtain ⟨B, Fr, S, ρ, o, c⟩ := h
 exact c S H Ext.refl o
theorem mo_some (h : PE X e (tM (gOf X) W m)) : PO X (some e) (tMo (gOf X) W (mPart m)) := PO.imp (po_some h) fun σ H Q h => by
 obtain ⟨B, Fr, S, ρ, o, c⟩ := h
 refine ⟨B, Fr, S, ρ, o, ?_⟩
 unfold mPart at c
 cases q : m ρ with
 | ok p =>
  obtain ⟨s, ρ1⟩ := p
  rw [q] at c
  intro x S1 H1 e1 o1
  cases s with
  | v d =>
   cases d with
   | int i =>
    obtain ⟨x', q1, q2⟩ := o1.vs 0 _ rfl
    have q3 : x = x' := by simpa using q1
    subst q3
    simp only [Rep] at q2
    exact ⟨i, q2, c S1 H1 e1 o1.tail⟩
   | _ => exact c.elim
  | _ => exact c.elim
 | err cc ρ1 => rw [q] at c; exact c
 | stuck => rw [q] at c; exact c
end
theorem opndO {G : Gd} {W : WX} {B : BxA} {Fr S : Hp} {ρ : ME} {σ : SV} {H : Hp} {m : ME -> Res (Option Int × ME)} {f : Option Int × ME -> MR} {Q : VK} {P : Option Int -> Hp -> Prop} (h : Ok G B Fr S ρ σ H) (hc : Cont G W B Fr S σ Q (bnd (m ρ) f))
    (k : ∀ i ρ1 S1 H1, Ext Fr S S1 -> Ok G B Fr S1 ρ1 σ H1 -> Cont G W B Fr S1 σ Q (f (i, ρ1)) -> P i H1) : tMo G W m σ H P := by
  refine ⟨B, Fr, S, ρ, h, ?_⟩
  cases e : m ρ with
  | ok p =>
    obtain ⟨i, ρ1⟩ := p
    intro S1 H1 e1 o
    rw [e] at hc
    exact k i ρ1 S1 H1 e1 o (Cont.mono hc e1)
  | err c ρ1 => rw [e] at hc; exact hc
  | stuck => rw [e] at hc; exact hc
def mSlV (i : Nat) (ml mh : ME -> Res (Option Int × ME)) : ME -> MR := fun ρ => match slotD ρ i with
 | none => .stuck
 | some _ => bnd (ml ρ) fun p => bnd (mh p.2) fun q => match slotD q.2 i with
  | some (.lst ds) => .ok (.own (.lst (cutD ds p.1 q.1)), q.2)
  | some (.scr ds) => .ok (.own (.lst (cutD ds p.1 q.1)), q.2)
  | some (.str z) => if z.length ≤ sizeLine then .ok (.v (.str (cutS z p.1 q.1)), q.2) else .stuck
  | some (.tup ds) => match q.2[i]? with
   | some (.v (.tup ds)) => .ok (.v (.tup (cutD ds p.1 q.1)), q.2)
   | _ => .stuck
  | _ => .stuck
section
variable {X : Cx} {W : WX} {a : Expr} {lo hi : Option Expr} {pos p1 p2 : Pos} {ma : ME -> MR} {ml mh : ME -> Res (Option Int × ME)}
theorem me_slV {x : Str} (i : Nat) (hl : PO X lo (tMo (gOf X) W ml)) (hh : PO X hi (tMo (gOf X) W mh)) (hN : X.N[i]? = some x := by rfl) (hv : Vis X.env.scope x := by first | exact Or.inl rfl | exact Or.inr (Or.inl rfl) | exact Or.inr (Or.inr rfl))
    (hd : (x == ("__debug__" : Str)) = false := by decide) (hcd : (x == ("__classdict__" : Str)) = false := by decide) : PE X (.Subscript (.Name x p1) (.Slice lo hi none p2) pos) (tM (gOf X) W (mSlV i ml mh)) := by
  refine PE.imp (pe_slice sl_all (pe_var hN hv hd hcd) hl hh) fun σ H Q h => ?_
  obtain ⟨B, Fr, S, ρ, o, c⟩ := h
  unfold mSlV at c
  cases q0 : slotD ρ i with
  | none => rw [q0] at c; exact c.elim
  | some d0 =>
    rw [q0] at c
    obtain ⟨x, ex, _⟩ := o.slot q0
    refine ⟨x, ex, opndO o c fun lo ρ2 S2 H2 e2 o2 c2 => opndO o2 c2 fun hi ρ3 S3 H3 e3 o3 c3 => ?_⟩
    cases q1 : slotD ρ3 i with
    | none => rw [q1] at c3; exact c3.elim
    | some d =>
      rw [q1] at c3
      obtain ⟨x', ex', hx⟩ := o3.slot q1
      have exx : x' = x := by rw [ex] at ex'; cases ex'; rfl
      subst exx
      cases d with
      | lst ds => exact sem_sl o3 hx (fun _ q => nomatch q) rfl c3
      | scr ds => exact sem_sl o3 hx (fun _ q => nomatch q) rfl c3
      | str z =>
        dsimp only at c3
        split at c3
        · exact sem_sl o3 hx (fun _ q => nomatch q) (by simp only [gSl]; rw [if_pos (by assumption)]) c3
        · exact c3.elim
      | tup ds =>
        dsimp only at c3
        split at c3
        · rename_i ds' qs
          have ed : ds' = ds := by
            unfold slotD at q1
            rw [qs] at q1
            cases q1; rfl
          subst ed
          obtain ⟨x2, e2', r2⟩ := o3.vs i _ qs
          have exx : x2 = x' := by rw [ex] at e2'; cases e2'; rfl
          subst exx
          exact sem_sl o3 hx (fun _ _ => r2) rfl c3
        · exact c3.elim
      | _ => exact c3.elim
end
def SemC (G : Gd) (r : List V -> Hp -> VK -> Prop) (g : List D -> Option Slot) : Prop := ∀ {B : BxA} {Fr S : Hp} {ρ : ME} {σ : SV} {H : Hp} {xs : List V} {ds : List D} {s : Slot} {Q : VK},
 Ok G B Fr S ρ σ H -> Reps G S xs ds -> g ds = some s -> Wants G B Fr S ρ σ Q s -> r xs H Q
def SemC1 (G : Gd) (r : List V -> Hp -> VK -> Prop) (g : D -> Option Slot) : Prop := ∀ {B : BxA} {Fr S : Hp} {ρ : ME} {σ : SV} {H : Hp} {x : V} {d : D} {s : Slot} {Q : VK},
 Ok G B Fr S ρ σ H -> AtH G S H x d -> g d = some s -> Wants G B Fr S ρ σ Q s -> r [x] H Q
def mCall (g : List D -> Option Slot) (ms : ME -> ML) : ME -> MR := fun ρ => bnd (ms ρ) fun p => match g p.1 with
 | some s => .ok (s, p.2)
 | none => .stuck
def mCall1 (g : D -> Option Slot) (ma : ME -> MR) : ME -> MR := fun ρ => frz (ma ρ) fun d ρ1 => match g d with
 | some s => .ok (s, ρ1)
 | none => .stuck
def mCallV (g : D -> Option Slot) (i : Nat) : ME -> MR := fun ρ => match (slotD ρ i).bind g with
 | some s => .ok (s, ρ)
 | none => .stuck
section
variable {X : Cx} {W : WX} {pos p p1 : Pos} {x y : Str} {e : Expr} {es : List Expr} {ms : ME -> ML} {ma : ME -> MR} {r : List V -> Hp -> VK -> Prop}
theorem sem_call {G : Gd} {g : List D -> Option Slot} (hg : SemC G r g) {σ : SV} {H : Hp} {Q : VK} (h : tM G W (mCall g ms) σ H Q) : tCB r (tMs G W ms) σ H Q := by
 obtain ⟨B, Fr, S, ρ, o, c⟩ := h
 refine args o c fun ds ρ1 xs S1 H1 e1 o1 r1 c1 => ?_
 dsimp only at c1
 cases q : g ds with
 | none => rw [q] at c1; exact c1.elim
 | some s => rw [q] at c1; exact hg o1 r1 q c1
theorem sem_call1 {G : Gd} {g : D -> Option Slot} (hg : SemC1 G r g) {σ : SV} {H : Hp} {Q : VK} (h : tM G W (mCall1 g ma) σ H Q) : tCB r (tCons (tM G W ma) tNil) σ H Q := by
 obtain ⟨B, Fr, S, ρ, o, c⟩ := h
 refine opnd o c fun d ρ1 x S1 H1 e1 o1 r1 c1 => ?_
 cases q : g d with
 | none => rw [q] at c1; exact c1.elim
 | some s => rw [q] at c1; exact hg o1 (o1.at r1) q c1
theorem sem_callV {G : Gd} {g : D -> Option Slot} (hg : SemC1 G r g) {i : Nat} {σ : SV} {H : Hp} {Q : VK} (h : tM G W (mCallV g i) σ H Q) : tCB r (tCons (tVar i) tNil) σ H Q := by
 obtain ⟨B, Fr, S, ρ, o, c⟩ := h
 unfold mCallV at c
 cases q0 : slotD ρ i with
 | none => rw [q0] at c; exact c.elim
 | some d =>
  rw [q0] at c
  obtain ⟨x, ex, hx⟩ := o.slot q0
  have c1 : Cont G W B Fr S σ Q (match g d with | some s => .ok (s, ρ) | none => .stuck) := c
  cases q : g d with
  | none => rw [q] at c1; exact c1.elim
  | some s => rw [q] at c1; exact ⟨x, ex, hg o hx q c1⟩
variable {id : String} {T : String}
theorem me_callT {g : List D -> Option Slot} (hc : CallR X (.type T) r) (hg : SemC (gOf X) r g) (hgl : Gl X x) (hm : X.mg x = none) (hv : bootBuiltins x = some (.type T)) (ha : PA X (e :: es) (tMs (gOf X) W ms)) (hn : x ≠ "__name__" := by decide) (hdb : (x == ("__debug__" : Str)) = false := by decide)
    (he : starEach (e :: es) X.env = (false, eval e X.env) :: starEach es X.env := by rfl) (hpl : (backTo pos (starEach es X.env)).any (·.1) = false := by rfl) : PE X (.Call (.Name x p) (e :: es) [] pos) (tM (gOf X) W (mCall g ms)) :=
  PE.imp (pe_callTy hc hgl hm hv ha hn hdb he hpl) fun _ _ _ h => sem_call hg h
theorem me_callB1 {g : D -> Option Slot} (hc : CallR X (.builtin id) r) (hg : SemC1 (gOf X) r g) (hgl : Gl X x) (hm : X.mg x = none) (hv : bootBuiltins x = some (.builtin id)) (ha : PE X e (tM (gOf X) W ma)) (hn : x ≠ "__name__" := by decide) (hdb : (x == ("__debug__" : Str)) = false := by decide)
    (he : starEach [e] X.env = (false, eval e X.env) :: starEach [] X.env := by rfl) (hpl : (backTo pos (starEach [] X.env)).any (·.1) = false := by rfl) : PE X (.Call (.Name x p) [e] [] pos) (tM (gOf X) W (mCall1 g ma)) :=
  PE.imp (pe_callB hc hgl hm hv (pa_cons ha pa_nil he) hn hdb he hpl) fun _ _ _ h => sem_call1 hg h
theorem me_callT1 {g : D -> Option Slot} (hc : CallR X (.type T) r) (hg : SemC1 (gOf X) r g) (hgl : Gl X x) (hm : X.mg x = none) (hv : bootBuiltins x = some (.type T)) (ha : PE X e (tM (gOf X) W ma)) (hn : x ≠ "__name__" := by decide) (hdb : (x == ("__debug__" : Str)) = false := by decide)
    (he : starEach [e] X.env = (false, eval e X.env) :: starEach [] X.env := by rfl) (hpl : (backTo pos (starEach [] X.env)).any (·.1) = false := by rfl) : PE X (.Call (.Name x p) [e] [] pos) (tM (gOf X) W (mCall1 g ma)) :=
  PE.imp (pe_callTy hc hgl hm hv (pa_cons ha pa_nil he) hn hdb he hpl) fun _ _ _ h => sem_call1 hg h
theorem me_callBV {g : D -> Option Slot} (i : Nat) (hc : CallR X (.builtin id) r) (hg : SemC1 (gOf X) r g) (hgl : Gl X x) (hm : X.mg x = none) (hv : bootBuiltins x = some (.builtin id)) (hN : X.N[i]? = some y := by rfl) (hvs : Vis X.env.scope y := by first | exact Or.inl rfl | exact Or.inr (Or.inl rfl) | exact Or.inr (Or.inr rfl))
    (hd : (y == ("__debug__" : Str)) = false := by decide) (hcd : (y == ("__classdict__" : Str)) = false := by decide) (hn : x ≠ "__name__" := by decide) (hdb : (x == ("__debug__" : Str)) = false := by decide) : PE X (.Call (.Name x p) [.Name y p1] [] pos) (tM (gOf X) W (mCallV g i)) :=
  PE.imp (pe_callB hc hgl hm hv (pa_cons (pe_var hN hvs hd hcd) pa_nil) hn hdb) fun _ _ _ h => sem_callV hg h
theorem me_callTV {g : D -> Option Slot} (i : Nat) (hc : CallR X (.type T) r) (hg : SemC1 (gOf X) r g) (hgl : Gl X x) (hm : X.mg x = none) (hv : bootBuiltins x = some (.type T)) (hN : X.N[i]? = some y := by rfl) (hvs : Vis X.env.scope y := by first | exact Or.inl rfl | exact Or.inr (Or.inl rfl) | exact Or.inr (Or.inr rfl))
    (hd : (y == ("__debug__" : Str)) = false := by decide) (hcd : (y == ("__classdict__" : Str)) = false := by decide) (hn : x ≠ "__name__" := by decide) (hdb : (x == ("__debug__" : Str)) = false := by decide) : PE X (.Call (.Name x p) [.Name y p1] [] pos) (tM (gOf X) W (mCallV g i)) :=
  PE.imp (pe_callTy hc hgl hm hv (pa_cons (pe_var hN hvs hd hcd) pa_nil) hn hdb) fun _ _ _ h => sem_callV hg h
end
def gLen : D -> Option Slot
 | .str z => if z.length ≤ sizeLine then some (.v (.int z.length)) else none
 | .lst ds => some (.v (.int ds.length))
 | .tup ds => some (.v (.int ds.length))
 | .ktp ds => some (.v (.int ds.length))
 | .dK ks _ => some (.v (.int ks.length))
 | .dT ks _ => some (.v (.int ks.length))
 | .kdc ks _ => some (.v (.int ks.length))
 | _ => none
def rLenA (G : Gd) : List V -> Hp -> VK -> Prop := fun xs H Q => (∃ x n, xs = [x] /\ LenV G.K x H n /\ Q (.int n) H) \/ (∃ a kvs, xs = [V.ref a] /\ Rd H a (.dK kvs) /\ Q (.int kvs.length) H) \/ (∃ a kvs, xs = [V.ref a] /\ Rd H a (.dT kvs) /\ Q (.int kvs.length) H) \/
 (∃ a kvs, xs = [V.ref a] /\ KDic G a kvs /\ Q (.int kvs.length) H)
theorem cr_lenA {X : Cx} : CallR X (.builtin "len") (rLenA (gOf X)) := by
 intro pins s σ H xs us Q I r h
 rcases h with h | ⟨a, kvs, rfl, h, q⟩ | ⟨a, kvs, rfl, h, q⟩ | ⟨a, kvs, rfl, h, q⟩
 ·exact call_len pins s σ H xs us Q I r h
 ·obtain ⟨u, rfl, ru⟩ := vals1 r
  cases ru
  exact d_len I h fun t s' I' => ⟨.int kvs.length, H, I', ⟨t, rfl⟩, q⟩
 ·obtain ⟨u, rfl, ru⟩ := vals1 r
  cases ru
  obtain ⟨z, hd, ys, rel, dd⟩ := dt_rd I.hok h
  have hl : kvs.length = ys.length := Paired.length rel
  have hz : sizeLine = 16777216 := sizeLine_eq
  exact call_len_dictH hd dd (by omega) ⟨.int kvs.length, H, I.tok _, ⟨_, by rw [hl]⟩, q⟩
 ·obtain ⟨u, rfl, ru⟩ := vals1 r
  cases ru
  have hz := h.2.1
  have hs : sizeLine = 16777216 := sizeLine_eq
  obtain ⟨hd, vs, dd, rel⟩ := kdic_at I h
  have hl : kvs.length = vs.length := rel.length
  exact call_len_dict hd dd (by omega) ⟨.int kvs.length, H, I.tok _, ⟨_, by rw [hl]⟩, q⟩
theorem sem_len {G : Gd} : SemC1 G (rLenA G) gLen := by
 intro B Fr S ρ σ H x d s Q o rx hg k
 cases d with
 | str z =>
  simp only [gLen] at hg
  split at hg
  ·cases hg
   simp only [AtH, Rep] at rx
   subst rx
   exact .inl ⟨_, _, rfl, ⟨by assumption, rfl⟩, k.int o⟩
  ·cases hg
 | lst ds =>
  cases hg
  obtain ⟨a, vs, rfl, h, r⟩ := rx
  rw [<- r.length] at k
  exact .inl ⟨_, _, rfl, .inl ⟨vs, h, rfl⟩, k.int o⟩
 | tup ds =>
  cases hg
  obtain ⟨a, vs, rfl, h, r⟩ := rx
  rw [<- r.length] at k
  exact .inl ⟨_, _, rfl, .inr ⟨vs, h, rfl⟩, k.int o⟩
 | ktp ds =>
  cases hg
  obtain ⟨a, vs, rfl, h, r⟩ := rx
  rw [<- r.length] at k
  exact .inl ⟨_, _, rfl, .inr ⟨vs, h, rfl⟩, k.int o⟩
 | dK ks ds =>
  cases hg
  obtain ⟨a, vs, rfl, h, l, r⟩ := rx
  refine .inr (.inl ⟨a, _, rfl, h, ?_⟩)
  rw [List.length_zip, <- l, Nat.min_self]
  exact k.int o
 | dT ks ds =>
  cases hg
  obtain ⟨a, vs, rfl, h, l, r⟩ := rx
  refine .inr (.inr (.inl ⟨a, _, rfl, h, ?_⟩))
  rw [List.length_zip, <- l, Nat.min_self]
  exact k.int o
 | kdc ks ds =>
  cases hg
  simp only [AtH, Rep] at rx
  obtain ⟨a, vs, rfl, h, l, r⟩ := rx
  refine .inr (.inr (.inr ⟨a, _, rfl, h, ?_⟩))
  rw [List.length_zip, <- l, Nat.min_self]
  exact k.int o
 | _ => cases hg
def gList : D -> Option Slot
 | .lst ds => some (.own (.lst ds))
 | .tup ds => some (.own (.lst ds))
 | .ktp ds => some (.own (.lst ds))
 | _ => none
theorem sem_list {G : Gd} : SemC1 G (fun xs H Q => ∃ p ys, xs = [.ref p] /\ (SqL G.K H p ys \/ SqT G.K H p ys) /\ ∀ l, H l = none -> Q (.ref l) (upd H l (.lst ys))) gList := by
 intro B Fr S ρ σ H x d s Q o rx hg k
 cases d with
 | lst ds => cases hg; obtain ⟨a, vs, rfl, h, r⟩ := rx; exact ⟨a, vs, rfl, .inl h, fun l hl => k.lst o r hl⟩
 | tup ds => cases hg; obtain ⟨a, vs, rfl, h, r⟩ := rx; exact ⟨a, vs, rfl, .inr h, fun l hl => k.lst o r hl⟩
 | ktp ds => cases hg; obtain ⟨a, vs, rfl, h, r⟩ := rx; exact ⟨a, vs, rfl, .inr h, fun l hl => k.lst o r hl⟩
 | _ => cases hg
def g1 (g : D -> Option Slot) : List D -> Option Slot
 | [d] => g d
 | _ => none
def g2 (g : D -> D -> Option Slot) : List D -> Option Slot
 | [d, e] => g d e
 | _ => none
theorem g1_some {g : D -> Option Slot} : ∀ {ds : List D} {s : Slot}, g1 g ds = some s -> ∃ d, ds = [d] /\ g d = some s
 | [], _, h => by cases h
 | [d], _, h => ⟨d, rfl, h⟩
 | _ :: _ :: _, _, h => by cases h
def gTuple : D -> Option Slot
 | .lst ds => some (.v (.tup ds))
 | .tup ds => some (.v (.tup ds))
 | .ktp ds => some (.v (.ktp ds))
 | _ => none
theorem reps1 {G : Gd} {S : Hp} {xs : List V} {d : D} (r : Reps G S xs [d]) : ∃ x, xs = [x] /\ Rep G S x d := by
 simp only [Reps] at r
 obtain ⟨x, vr, rfl, hx, rfl⟩ := r
 exact ⟨x, rfl, hx⟩
theorem reps2 {G : Gd} {S : Hp} {xs : List V} {d e : D} (r : Reps G S xs [d, e]) : ∃ x y, xs = [x, y] /\ Rep G S x d /\ Rep G S y e := by
 simp only [Reps] at r
 obtain ⟨x, vr, rfl, hx, y, vr2, rfl, hy, rfl⟩ := r
 exact ⟨x, y, rfl, hx, hy⟩
theorem sem_tuple {G : Gd} : SemC G (fun xs H Q => ∃ p ys, xs = [.ref p] /\ ((SqL G.K H p ys /\ ∀ l, H l = none -> Q (.ref l) (upd H l (.tup ys))) \/ (SqT G.K H p ys /\ Q (.ref p) H))) (g1 gTuple) := by
 intro B Fr S ρ σ H xs ds s Q o rx hg k
 obtain ⟨d, rfl, hg⟩ := g1_some hg
 obtain ⟨x, rfl, hx⟩ := reps1 rx
 cases d with
 | lst ds =>
  cases hg
  obtain ⟨a, vs, rfl, h, r⟩ := o.at hx
  exact ⟨a, vs, rfl, .inl ⟨h, fun l hl => k.tup o r hl⟩⟩
 | tup ds =>
  cases hg
  obtain ⟨a, vs, rfl, h, r⟩ := o.at hx
  exact ⟨a, vs, rfl, .inr ⟨h, k.rep o hx⟩⟩
 | ktp ds =>
  cases hg
  obtain ⟨a, vs, rfl, h, r⟩ := o.at hx
  exact ⟨a, vs, rfl, .inr ⟨h, k.rep o hx⟩⟩
 | _ => cases hg
def gTupleV : D -> Option Slot
 | .lst ds => some (.v (.tup ds))
 | _ => none
theorem sem_tupleV {G : Gd} : SemC1 G (fun xs H Q => ∃ p ys, xs = [.ref p] /\ ((SqL G.K H p ys /\ ∀ l, H l = none -> Q (.ref l) (upd H l (.tup ys))) \/ (SqT G.K H p ys /\ Q (.ref p) H))) gTupleV := by
 intro B Fr S ρ σ H x d s Q o rx hg k
 cases d with
 | lst ds => cases hg; obtain ⟨a, vs, rfl, h, r⟩ := rx; exact ⟨a, vs, rfl, .inl ⟨h, fun l hl => k.tup o r hl⟩⟩
 | _ => cases hg
def gInt : D -> Option Slot
 | .int i => some (.v (.int i))
 | .bl k => some (.v (.int (if k then 1 else 0)))
 | _ => none
theorem sem_int {G : Gd} : SemC G (fun xs H Q => (∃ i, xs = [.int i] /\ Q (.int i) H) \/ ∃ k, xs = [.bl k] /\ Q (.int (if k then 1 else 0)) H) (g1 gInt) := by
 intro B Fr S ρ σ H xs ds s Q o rx hg k
 obtain ⟨d, rfl, hg⟩ := g1_some hg
 obtain ⟨x, rfl, hx⟩ := reps1 rx
 cases d with
 | int i =>
  cases hg
  simp only [Rep] at hx
  subst hx
  exact .inl ⟨i, rfl, k.int o⟩
 | bl i =>
  cases hg
  simp only [Rep] at hx
  subst hx
  exact .inr ⟨i, rfl, k.int o⟩
 | _ => cases hg
def gMin2 : D -> D -> Option Slot
 | .int i, .int j => some (.v (.int (if j < i then j else i)))
 | _, _ => none
def gMax2 : D -> D -> Option Slot
 | .int i, .int j => some (.v (.int (if j > i then j else i)))
 | _, _ => none
def bools? : List D -> Option (List Bool)
 | [] => some []
 | .bl b :: ds => (bools? ds).map (b :: ·)
 | _ => none
def ints? : List D -> Option (List Int)
 | [] => some []
 | .int b :: ds => (ints? ds).map (b :: ·)
 | _ => none
theorem reps_bools {G : Gd} {S : Hp} : ∀ {ds : List D} {xs : List V} {bs : List Bool}, Reps G S xs ds -> bools? ds = some bs -> xs = bs.map V.bl := by
 intro ds
 induction ds with
 | nil =>
  intro xs bs r e
  simp only [Reps] at r
  cases e
  exact r
 | cons d ds ih =>
  intro xs bs r e
  simp only [Reps] at r
  obtain ⟨v, vr, rfl, h, r⟩ := r
  cases d with
  | bl b =>
   have e' : (bools? ds).map (b :: ·) = some bs := e
   cases q : bools? ds with
   | none => rw [q] at e'; cases e'
   | some bs' =>
    rw [q] at e'
    cases e'
    simp only [Rep] at h
    rw [h, ih r q]; rfl
  | _ => cases e
theorem ints_map (ns : List Int) : ints? (ns.map D.int) = some ns := by
 induction ns with
 | nil => rfl
 | cons n ns ih => simp only [List.map_cons, ints?, ih, Option.map_some]
theorem bools_map (ns : List Bool) : bools? (ns.map D.bl) = some ns := by
 induction ns with
 | nil => rfl
 | cons n ns ih => simp only [List.map_cons, bools?, ih, Option.map_some]
def gAll : D -> Option Slot
 | .lst ds => (bools? ds).map fun bs => .v (.bl (bs.all id))
 | _ => none
def gSum : D -> Option Slot
 | .lst ds => (ints? ds).map fun ns => .v (.int ns.sum)
 | _ => none
theorem sem_all {G : Gd} : SemC1 G (rAll G.K) gAll := by
 intro B Fr S ρ σ H x d s Q o rx hg k
 cases d with
 | lst ds =>
  obtain ⟨a, vs, rfl, h, r⟩ := rx
  simp only [gAll] at hg
  cases q : bools? ds with
  | none => rw [q] at hg; cases hg
  | some bs =>
   rw [q] at hg
   cases hg
   have e := reps_bools r q
   subst e
   exact ⟨a, bs, rfl, h, k.bl o⟩
 | _ => cases hg
mutual
def D.py : D -> PyData
 | .non => .none
 | .bl b => .bool b
 | .int i => .int i
 | .str x => .str x
 | .tup ds => .tuple (D.pys ds)
 | .ktp ds => .tuple (D.pys ds)
 | .lst ds => .list (D.pys ds)
 | .kdc _ _ => .dict []
 | .dK _ _ => .dict []
 | .dT _ _ => .dict []
 | .ins _ _ _ => .dict []
 | .scr _ => .dict []
 | .exn => .dict []
 | .exf _ _ => .dict []
def D.pys : List D -> List PyData
 | [] => []
 | d :: ds => D.py d :: D.pys ds
end
mutual
theorem Ok.dp {G : Gd} {B : BxA} {Fr S : Hp} {ρ : ME} {σ : SV} {H : Hp} (o : Ok G B Fr S ρ σ H) : ∀ {d : D} {x : V}, Rep G S x d -> d.py.canLay0 = true -> Dp G.K H x d.py
 | .non, x, r, _ => by simp only [Rep] at r; subst r; simp only [D.py]; exact .non
 | .bl b, x, r, _ => by simp only [Rep] at r; subst r; simp only [D.py]; exact .bl b
 | .int b, x, r, _ => by simp only [Rep] at r; subst r; simp only [D.py]; exact .int b
 | .str b, x, r, _ => by simp only [Rep] at r; subst r; simp only [D.py]; exact .str b
 | .tup ds, x, r, h => by
  obtain ⟨a, vs, rfl, ha, ra⟩ := o.at r
  simp only [D.py, PyData.canLay0] at h ⊢
  exact .tup ha (Ok.dps o ra h)
 | .ktp ds, x, r, h => by
  obtain ⟨a, vs, rfl, ha, ra⟩ := o.at r
  simp only [D.py, PyData.canLay0] at h ⊢
  exact .tup ha (Ok.dps o ra h)
 | .lst ds, x, r, h => by
  obtain ⟨a, vs, rfl, ha, ra⟩ := o.at r
  simp only [D.py, PyData.canLay0] at h ⊢
  exact .lst ha (Ok.dps o ra h)
 | .kdc _ _, x, r, h => by simp [D.py, PyData.canLay0] at h
 | .dK _ _, x, r, h => by simp [D.py, PyData.canLay0] at h
 | .dT _ _, x, r, h => by simp [D.py, PyData.canLay0] at h
 | .ins _ _ _, x, r, h => by simp [D.py, PyData.canLay0] at h
 | .scr _, x, r, h => by simp [D.py, PyData.canLay0] at h
 | .exn, x, r, h => by simp [D.py, PyData.canLay0] at h
 | .exf _ _, x, r, h => by simp [D.py, PyData.canLay0] at h
theorem Ok.dps {G : Gd} {B : BxA} {Fr S : Hp} {ρ : ME} {σ : SV} {H : Hp} (o : Ok G B Fr S ρ σ H) : ∀ {ds : List D} {xs : List V}, Reps G S xs ds -> PyData.canLayAll0 (D.pys ds) = true -> DpAll G.K H xs (D.pys ds)
 | [], xs, r, _ => by simp only [Reps] at r; subst r; simp only [D.pys]; exact .nil
 | d :: ds, xs, r, h => by
  simp only [Reps] at r
  obtain ⟨v, vr, rfl, hv, r⟩ := r
  simp only [D.pys, PyData.canLayAll0, Bool.and_eq_true] at h ⊢
  exact .cons (Ok.dp o hv h.1) (Ok.dps o r h.2)
end
def shp (d : D) : Bool := SeqAt.shaped d.py
def eqD : D -> D -> Option Bool
 | .int i, .int j => some (decide (i = j))
 | .str i, .str j => some (decide (i = j))
 | .bl i, .bl j => some (decide (i = j))
 | d, e => if shp d && shp e then some (PyData.eqv d.py e.py) else none
def gEq (d e : D) : Option Slot := (eqD d e).map fun b => .v (.bl b)
def gNe (d e : D) : Option Slot := (eqD d e).map fun b => .v (.bl (!b))
def rEqA (K : PySem.W.Frag) : R2 := fun x y H Q => rEq x y H Q \/ rEqD K x y H Q
def rNeA (K : PySem.W.Frag) : R2 := fun x y H Q => rNe x y H Q \/ rNeD K x y H Q
theorem op_eqA {X : Cx} (hu : X.A.units + 64 < cLine) : OpR X (compareOp .Eq) (rEqA X.K) := OpR.or op_eq (op_eqD hu)
theorem op_neA {X : Cx} (hu : X.A.units + 64 < cLine) : OpR X (compareOp .NotEq) (rNeA X.K) := OpR.or op_ne (op_neD hu)
theorem eq_walk {G : Gd} {B : BxA} {Fr S : Hp} {ρ : ME} {σ : SV} {H : Hp} {x y : V} {d e : D} {b : Bool} (o : Ok G B Fr S ρ σ H) (rx : Rep G S x d) (ry : Rep G S y e) (h : eqD d e = some b) :
    (scal x y = true /\ b = decide (x = y)) \/ (Dp G.K H x d.py /\ Dp G.K H y e.py /\ SeqAt.shaped d.py = true /\ SeqAt.shaped e.py = true /\ b = PyData.eqv d.py e.py) := by
  have gen : (if shp d && shp e then some (PyData.eqv d.py e.py) else none) = some b -> (scal x y = true /\ b = decide (x = y)) \/ (Dp G.K H x d.py /\ Dp G.K H y e.py /\ SeqAt.shaped d.py = true /\ SeqAt.shaped e.py = true /\ b = PyData.eqv d.py e.py) := fun q => by
    split at q
    · rename_i c
      rw [Bool.and_eq_true] at c
      cases q
      exact .inr ⟨o.dp rx (SeqAt.canLay_of_shaped c.1), o.dp ry (SeqAt.canLay_of_shaped c.2), c.1, c.2, rfl⟩
    · cases q
  cases d with
  | int i =>
    cases e with
    | int j => cases h; simp only [Rep] at rx ry; subst rx ry; exact .inl ⟨rfl, by simp⟩
    | _ => exact gen h
  | str i =>
    cases e with
    | str j => cases h; simp only [Rep] at rx ry; subst rx ry; exact .inl ⟨rfl, by simp⟩
    | _ => exact gen h
  | bl i =>
    cases e with
    | bl j => cases h; simp only [Rep] at rx ry; subst rx ry; exact .inl ⟨rfl, by simp⟩
    | _ => exact gen h
  | _ => cases e <;> exact gen h
theorem sem_eq {G : Gd} : Sem2 G (rEqA G.K) gEq := by
 intro B Fr S ρ σ H x y d e s Q o rx ry hg k
 unfold gEq at hg
 cases q : eqD d e with
 | none => rw [q] at hg; cases hg
 | some b =>
  rw [q] at hg
  cases hg
  rcases eq_walk o rx ry q with ⟨h1, rfl⟩ | ⟨h1, h2, h3, h4, rfl⟩
  ·exact .inl ⟨h1, k.bl o⟩
  ·exact .inr ⟨_, _, h1, h2, h3, h4, k.bl o⟩
theorem sem_ne {G : Gd} : Sem2 G (rNeA G.K) gNe := by
 intro B Fr S ρ σ H x y d e s Q o rx ry hg k
 unfold gNe at hg
 cases q : eqD d e with
 | none => rw [q] at hg; cases hg
 | some b =>
  rw [q] at hg
  cases hg
  rcases eq_walk o rx ry q with ⟨h1, rfl⟩ | ⟨h1, h2, h3, h4, rfl⟩
  ·exact .inl ⟨h1, k.bl o⟩
  ·exact .inr ⟨_, _, h1, h2, h3, h4, k.bl o⟩
def gI (f : Int -> Int -> Bool) : D -> D -> Option Slot
 | .int i, .int j => some (.v (.bl (f i j)))
 | _, _ => none
theorem sem_cmpI {G : Gd} {f : Int -> Int -> Bool} : Sem2 G (rI0 fun i j => .bl (f i j)) (gI f) := by
 intro B Fr S ρ σ H x y d e s Q o rx ry hg k
 obtain ⟨i, j, rfl, rfl⟩ : ∃ i j, d = .int i /\ e = .int j := by
  unfold gI at hg
  split at hg
  ·exact ⟨_, _, rfl, rfl⟩
  ·cases hg
 simp only [Rep] at rx ry
 subst rx ry
 cases hg
 exact ⟨i, j, rfl, rfl, k.bl o⟩
def gLt : D -> D -> Option Slot := gI fun i j => decide (i < j)
def gLe : D -> D -> Option Slot := gI fun i j => decide (i ≤ j)
def gGt : D -> D -> Option Slot := gI fun i j => decide (j < i)
def gGe : D -> D -> Option Slot := gI fun i j => decide (j ≤ i)
def gIsN : D -> D -> Option Slot
 | .non, .non => some (.v (.bl true))
 | _, .non => some (.v (.bl false))
 | _, _ => none
theorem rep_non {G : Gd} {S : Hp} {x : V} {d : D} (r : Rep G S x d) : decide (x = .non) = (match d with | .non => true | _ => false) := by
 cases d with
 | non => simp only [Rep] at r; subst r; rfl
 | bl _ => simp only [Rep] at r; subst r; rfl
 | int _ => simp only [Rep] at r; subst r; rfl
 | str _ => simp only [Rep] at r; subst r; rfl
 | _ => simp only [Rep] at r; obtain ⟨a, q⟩ := r; first | (obtain ⟨_, rfl⟩ := q; rfl) | (obtain ⟨_, rfl, _⟩ := q; rfl) | (obtain ⟨_, _, rfl, _⟩ := q; rfl) | (obtain ⟨_, _, _, rfl, _⟩ := q; rfl)
theorem sem_isN {G : Gd} : Sem2 G (fun x y H Q => y = .non /\ Q (.bl (decide (x = .non))) H) gIsN := by
 intro B Fr S ρ σ H x y d e s Q o rx ry hg k
 have hd := rep_non rx
 cases e with
 | non =>
  simp only [Rep] at ry
  refine ⟨ry, ?_⟩
  rw [hd]
  cases d <;> (cases hg; exact k.bl o)
 | _ => cases d <;> cases hg
def inDic : D -> D -> Option Bool
 | d, .kdc ks vs => (key? d).map fun k => (valD ks vs k).isSome
 | d, .dK ks vs => (key? d).map fun k => (valD ks vs k).isSome
 | .tup k, .dT ks vs => (keys? k).map fun k => (valD ks vs k).isSome
 | _, _ => none
def rInA (G : Gd) (n : Bool -> Bool) : R2 := fun x y H Q => (∃ a o, y = .ref a /\ DGet H a x o /\ Q (.bl (n o.isSome)) H) \/ ∃ a kvs k, y = .ref a /\ x = kV k /\ KDic G a kvs /\ Q (.bl (n (valV kvs k).isSome)) H
theorem op_inA {X : Cx} (hu : X.A.units + 1 < cLine) : OpR X (compareOp .In) (rInA (gOf X) id) := by
 intro pins s σ H x y v u Q I rx ry h
 rcases h with ⟨a, o, rfl, g, q⟩ | ⟨a, kvs, k, rfl, rfl, g, q⟩
 ·cases ry
  exact d_in hu I g rx fun s' I' => ⟨.bl o.isSome, H, I', rfl, q⟩
 ·cases ry
  exact kd_in I g rx fun s' I' => ⟨.bl _, H, I', rfl, q⟩
theorem op_notInA {X : Cx} (hu : X.A.units + 1 < cLine) : OpR X (compareOp .NotIn) (rInA (gOf X) not) := by
 intro pins s σ H x y v u Q I rx ry h
 rcases h with ⟨a, o, rfl, g, q⟩ | ⟨a, kvs, k, rfl, rfl, g, q⟩
 ·cases ry
  exact d_notIn hu I g rx fun s' I' => ⟨.bl (!o.isSome), H, I', rfl, q⟩
 ·cases ry
  exact kd_notIn I g rx fun s' I' => ⟨.bl _, H, I', rfl, q⟩
theorem in_walk {G : Gd} {B : BxA} {Fr S : Hp} {ρ : ME} {σ : SV} {H : Hp} {x y : V} {d e : D} {b : Bool} (n : Bool -> Bool) {Q : VK} (o : Ok G B Fr S ρ σ H) (rx : Rep G S x d) (ry : AtH G S H y e) (h : inDic d e = some b) (q : Q (.bl (n b)) H) : rInA G n x y H Q := by
 cases e with
 | kdc ks vs =>
  have h' : (key? d).map (fun k => (valD ks vs k).isSome) = some b := by cases d <;> exact h
  cases hk : key? d with
  | none => rw [hk] at h'; cases h'
  | some k =>
   rw [hk] at h'
   cases h'
   simp only [AtH, Rep] at ry
   obtain ⟨a, ws, rfl, g, l, r⟩ := ry
   exact .inr ⟨a, _, k, rfl, rep_key rx hk, g, by rw [valD_get r]; exact q⟩
 | dK ks vs =>
  have h' : (key? d).map (fun k => (valD ks vs k).isSome) = some b := by cases d <;> exact h
  cases hk : key? d with
  | none => rw [hk] at h'; cases h'
  | some k =>
   rw [hk] at h'
   cases h'
   obtain ⟨a, ws, rfl, g, l, r⟩ := ry
   exact .inl ⟨a, _, rfl, .inl ⟨_, k, g, rep_key rx hk, rfl⟩, by rw [valD_get r]; exact q⟩
 | dT ks vs =>
  cases d with
  | tup kd =>
   have h' : (keys? kd).map (fun k => (valD ks vs k).isSome) = some b := h
   cases hk : keys? kd with
   | none => rw [hk] at h'; cases h'
   | some k =>
    rw [hk] at h'
    cases h'
    obtain ⟨a, ws, rfl, g, l, r⟩ := ry
    simp only [Rep] at rx
    obtain ⟨c, us, rfl, hc, rc⟩ := rx
    have e2 := reps_keys rc hk
    subst e2
    exact .inl ⟨a, _, rfl, .inr ⟨_, k, c, g, rfl, o.tupAt hc, rfl⟩, by rw [valD_get r]; exact q⟩
  | _ => cases h
 | _ => cases d <;> cases h
abbrev MB := Res (Bool × ME)
section
variable (G : Gd) (W : WX)
def ContB (B : BxA) (Fr S : Hp) (σ : SV) (Q : Bool -> Hp -> Prop) : MB -> Prop
 | .ok (b, ρ) => ∀ S' H', Ext Fr S S' -> Ok G B Fr S' ρ σ H' -> Q b H'
 | .err c ρ => ∀ S' H', Ext Fr S S' -> Ok G B Fr S' ρ σ H' -> ∀ C, G.mg c.nm = some (.ref C) -> ∀ dd, ErrD G S' H' c dd -> W (.ref C) dd σ H'
 | .stuck => False
def tT (m : ME -> MB) : TT := fun σ H Q => ∃ B Fr S ρ, Ok G B Fr S ρ σ H /\ ContB G W B Fr S σ Q (m ρ)
end
def mTst (m : ME -> MR) : ME -> MB := fun ρ => match m ρ with
 | .ok (.v (.bl b), ρ1) => .ok (b, ρ1)
 | .ok _ => .stuck
 | .err c ρ1 => .err c ρ1
 | .stuck => .stuck
def mNotB (m : ME -> MB) : ME -> MB := fun ρ => bnd (m ρ) fun p => .ok (!p.1, p.2)
def mAndB (m n : ME -> MB) : ME -> MB := fun ρ => bnd (m ρ) fun p => if p.1 then n p.2 else .ok (false, p.2)
def mOrB (m n : ME -> MB) : ME -> MB := fun ρ => bnd (m ρ) fun p => if p.1 then .ok (true, p.2) else n p.2
def mAndV (m n : ME -> MR) : ME -> MR := fun ρ => bnd (mTst m ρ) fun p => if p.1 then n p.2 else .ok (.v (.bl false), p.2)
def mOrV (m n : ME -> MR) : ME -> MR := fun ρ => bnd (mTst m ρ) fun p => if p.1 then .ok (.v (.bl true), p.2) else n p.2
def mNotV (m : ME -> MR) : ME -> MR := fun ρ => bnd (mTst m ρ) fun p => .ok (.v (.bl (!p.1)), p.2)
def mIf (c : ME -> MB) (m n : ME -> MR) : ME -> MR := fun ρ => bnd (c ρ) fun p => if p.1 then m p.2 else n p.2
section
variable {G : Gd} {W : WX} {B : BxA} {Fr S S' : Hp} {ρ : ME} {σ : SV} {H : Hp}
theorem ContB.mono {Q : Bool -> Hp -> Prop} {r : MB} (h : ContB G W B Fr S σ Q r) (e : Ext Fr S S') : ContB G W B Fr S' σ Q r := by
 cases r with
 | ok p => exact fun S2 H2 e2 o => h S2 H2 (e.trans e2) o
 | err c ρ => exact fun S2 H2 e2 o => h S2 H2 (e.trans e2) o
 | stuck => exact h
theorem tstB {m : ME -> MB} {f : Bool × ME -> MB} {Q P : Bool -> Hp -> Prop} (h : Ok G B Fr S ρ σ H) (hc : ContB G W B Fr S σ Q (bnd (m ρ) f))
    (k : ∀ b ρ1 S1 H1, Ext Fr S S1 -> Ok G B Fr S1 ρ1 σ H1 -> ContB G W B Fr S1 σ Q (f (b, ρ1)) -> P b H1) : tT G W m σ H P := by
  refine ⟨B, Fr, S, ρ, h, ?_⟩
  cases e : m ρ with
  | ok p =>
    obtain ⟨b, ρ1⟩ := p
    intro S1 H1 e1 o
    rw [e] at hc
    exact k b ρ1 S1 H1 e1 o (ContB.mono hc e1)
  | err c ρ1 => rw [e] at hc; exact hc
  | stuck => rw [e] at hc; exact hc
theorem tstV {m : ME -> MB} {f : Bool × ME -> MR} {Q : VK} {P : Bool -> Hp -> Prop} (h : Ok G B Fr S ρ σ H) (hc : Cont G W B Fr S σ Q (bnd (m ρ) f))
    (k : ∀ b ρ1 S1 H1, Ext Fr S S1 -> Ok G B Fr S1 ρ1 σ H1 -> Cont G W B Fr S1 σ Q (f (b, ρ1)) -> P b H1) : tT G W m σ H P := by
  refine ⟨B, Fr, S, ρ, h, ?_⟩
  cases e : m ρ with
  | ok p =>
    obtain ⟨b, ρ1⟩ := p
    intro S1 H1 e1 o
    rw [e] at hc
    exact k b ρ1 S1 H1 e1 o (Cont.mono hc e1)
  | err c ρ1 => rw [e] at hc; exact hc
  | stuck => rw [e] at hc; exact hc
theorem sem_tst {m : ME -> MR} {Q : Bool -> Hp -> Prop} (h : tT G W (mTst m) σ H Q) : tM G W m σ H fun x H' => ∃ k, x = .bl k /\ Q k H' := by
 obtain ⟨B, Fr, S, ρ, o, c⟩ := h
 refine ⟨B, Fr, S, ρ, o, ?_⟩
 unfold mTst at c
 cases e : m ρ with
 | ok p =>
  obtain ⟨s, ρ1⟩ := p
  rw [e] at c
  intro x S1 H1 e1 o1
  cases s with
  | v d =>
   cases d with
   | bl b =>
    obtain ⟨x', q1, q2⟩ := o1.vs 0 _ rfl
    have q3 : x = x' := by simpa using q1
    subst q3
    simp only [Rep] at q2
    exact ⟨b, q2, c S1 H1 e1 o1.tail⟩
   | _ => exact c.elim
  | _ => exact c.elim
 | err cc ρ1 => rw [e] at c; exact c
 | stuck => rw [e] at c; exact c
end
section
variable {X : Cx} {W : WX} {a b : Expr} {rest : List Expr} {pos : Pos} {ma mb mc : ME -> MR} {na nb : ME -> MB}
theorem mt_val (ha : PE X a (tM (gOf X) W ma)) (he : ∀ whole, isTrue a X.env whole = (do let v <- whole; standAt a.pos; holding [v] (truthy v)) := by intro _; rfl) : PT X a (tT (gOf X) W (mTst ma)) :=
 PT.imp (pt_val ha he) fun _ _ _ h => sem_tst h
theorem mt_cmp {op : CmpOp} {r : R2} {g : D -> D -> Option Slot} (ho : OpR X (compareOp op) r) (hg : Sem2 (gOf X) r g) (ha : PE X a (tM (gOf X) W ma)) (hb : PE X b (tM (gOf X) W mb)) (hm : behindInMarks op b = false := by first | exact nobehind _ (by decide) (by decide) | rfl) :
    PT X (.Compare a [op] [b] pos) (tT (gOf X) W (mTst (mOp g ma mb))) := PT.imp (pt_cmpR ho ha hb hm) fun _ _ _ h => sem_op hg (sem_tst h)
theorem mt_not (ha : PT X a (tT (gOf X) W na)) : PT X (.UnaryOp .Not a pos) (tT (gOf X) W (mNotB na)) := PT.imp (pt_not ha) fun σ H Q h => by
 obtain ⟨B, Fr, S, ρ, o, c⟩ := h
 exact tstB o c fun b ρ1 S1 H1 e1 o1 c1 => c1 S1 H1 Ext.refl o1
theorem PW.imp {e : Expr} {t t' : TT} (h : PW X e t) (hi : ∀ σ H Q, t' σ H Q -> t σ H Q) : PW X e t' := ⟨fun w pins s σ H Q I q => h.run w pins s σ H Q I (hi σ H Q q)⟩
theorem mw_and1 (ha : PT X a (tT (gOf X) W na)) : PW X (.BoolOp .And [a] pos) (tT (gOf X) W na) := pw_and1 ha
theorem mw_or1 (ha : PT X a (tT (gOf X) W na)) : PW X (.BoolOp .Or [a] pos) (tT (gOf X) W na) := pw_or1 ha
theorem mw_and (ha : PT X a (tT (gOf X) W na)) (hb : PW X (.BoolOp .And (b :: rest) pos) (tT (gOf X) W nb)) : PW X (.BoolOp .And (a :: b :: rest) pos) (tT (gOf X) W (mAndB na nb)) := PW.imp (pw_and ha hb) fun σ H Q h => by
 obtain ⟨B, Fr, S, ρ, o, c⟩ := h
 refine tstB o c fun b ρ1 S1 H1 e1 o1 c1 => ?_
 cases b with
 | true => exact ⟨B, Fr, S1, ρ1, o1, c1⟩
 | false => exact c1 S1 H1 Ext.refl o1
theorem mw_or (ha : PT X a (tT (gOf X) W na)) (hb : PW X (.BoolOp .Or (b :: rest) pos) (tT (gOf X) W nb)) : PW X (.BoolOp .Or (a :: b :: rest) pos) (tT (gOf X) W (mOrB na nb)) := PW.imp (pw_or ha hb) fun σ H Q h => by
 obtain ⟨B, Fr, S, ρ, o, c⟩ := h
 refine tstB o c fun b ρ1 S1 H1 e1 o1 c1 => ?_
 cases b with
 | true => exact c1 S1 H1 Ext.refl o1
 | false => exact ⟨B, Fr, S1, ρ1, o1, c1⟩
theorem mt_w {n : ME -> MB} {e : Expr} (h : PW X e (tT (gOf X) W n)) : PT X e (tT (gOf X) W n) := h.pt
theorem me_one {op : BoolOp} (h : PE X a (tM (gOf X) W ma)) : PE X (.BoolOp op [a] pos) (tM (gOf X) W ma) := pe_one h
theorem me_and (ha : PE X a (tM (gOf X) W ma)) (hb : PE X (.BoolOp .And (b :: rest) pos) (tM (gOf X) W mb)) : PE X (.BoolOp .And (a :: b :: rest) pos) (tM (gOf X) W (mAndV ma mb)) := PE.imp (pe_and ha hb) fun σ H Q h => by
 obtain ⟨B, Fr, S, ρ, o, c⟩ := h
 refine sem_tst (Q := fun b H1 => if b = true then tM (gOf X) W mb σ H1 Q else Q (.bl false) H1) (tstV o c fun b ρ1 S1 H1 e1 o1 c1 => ?_)
 cases b with
 | true => exact ⟨B, Fr, S1, ρ1, o1, c1⟩
 | false => exact Wants.bl c1 o1
theorem me_not (ha : PE X a (tM (gOf X) W ma)) : PE X (.UnaryOp .Not a pos) (tM (gOf X) W (mNotV ma)) := PE.imp (pe_not ha) fun σ H Q h => by
 obtain ⟨B, Fr, S, ρ, o, c⟩ := h
 exact sem_tst (Q := fun b H1 => Q (.bl (!b)) H1) (tstV o c fun b ρ1 S1 H1 e1 o1 c1 => Wants.bl c1 o1)
def mChain (g g' : D -> D -> Option Slot) (ma mb mc : ME -> MR) : ME -> MR := fun ρ => frz (ma ρ) fun d ρ1 => frz (mb ρ1) fun e ρ2 => match g d e with
 | some (.v (.bl true)) => frz (mc ρ2) fun f ρ3 => (match g' e f with
  | some s => .ok (s, ρ3)
  | none => .stuck)
 | some (.v (.bl false)) => .ok (.v (.bl false), ρ2)
 | _ => .stuck
theorem sem_chain {G : Gd} {r r' : R2} {g g' : D -> D -> Option Slot} (hg : Sem2 G r g) (hg' : Sem2 G r' g') {σ : SV} {H : Hp} {Q : VK} (h : tM G W (mChain g g' ma mb mc) σ H Q) : tChain r r' (tM G W ma) (tM G W mb) (tM G W mc) σ H Q := by
 obtain ⟨B, Fr, S, ρ, o, c⟩ := h
 refine opnd o c fun d ρ1 x S1 H1 e1 o1 r1 c1 => opnd o1 c1 fun e ρ2 y S2 H2 e2 o2 r2 c2 => ?_
 cases q : g d e with
 | none => rw [q] at c2; exact c2.elim
 | some s =>
  rw [q] at c2
  refine hg o2 (r1.mono e2.same) r2 q fun z S3 H3 e3 o3 => ?_
  cases s with
  | v t =>
   cases t with
   | bl b =>
    obtain ⟨z', q1, q2⟩ := o3.vs 0 _ rfl
    have q3 : z = z' := by simpa using q1
    subst q3
    simp only [Rep] at q2
    refine ⟨b, q2, ?_⟩
    cases b with
    | true =>
     rw [if_pos rfl]
     refine opnd o3.tail (Cont.mono c2 e3) fun f ρ3 w S4 H4 e4 o4 r4 c4 => ?_
     cases q' : g' e f with
     | none => rw [q'] at c4; exact c4.elim
     | some s => rw [q'] at c4; exact hg' o4 (r2.mono (e3.trans e4).same) r4 q' c4
    | false =>
     rw [if_neg Bool.false_ne_true]
     exact Wants.bl (Cont.mono c2 e3) o3.tail
   | _ => exact c2.elim
  | _ => exact c2.elim
theorem mt_chain {c : Expr} {op op' : CmpOp} {r r' : R2} {g g' : D -> D -> Option Slot} (ho : OpR X (compareOp op) r) (hg : Sem2 (gOf X) r g) (ho' : OpR X (compareOp op') r') (hg' : Sem2 (gOf X) r' g') (ha : PE X a (tM (gOf X) W ma)) (hb : PE X b (tM (gOf X) W mb)) (hc : PE X c (tM (gOf X) W mc))
    (hm : lastMarks [op, op'] [b, c] = false := by with_unfolding_all rfl) : PT X (.Compare a [op, op'] [b, c] pos) (tT (gOf X) W (mTst (mChain g g' ma mb mc))) := PT.imp (pt_chain ho ho' ha hb hc hm) fun _ _ _ h => sem_chain hg hg' (sem_tst h)
end
inductive Fl where
 | nx (ρ : ME) | rt (s : Slot) (ρ : ME) | bk (ρ : ME) | ct (ρ : ME)
abbrev MS := Res Fl
section
variable (G : Gd) (W : WX)
def ContS (B : BxA) (Fr S : Hp) (En : Ends) : MS -> Prop
 | .ok (.nx ρ) => ∀ (σ : SV) S' H', Ext Fr S S' -> Ok G B Fr S' ρ σ H' -> En.nx σ H'
 | .ok (.rt s ρ) => ∀ (σ : SV) x S' H', Ext Fr S S' -> Ok G B Fr S' (s :: ρ) (some x :: σ) H' -> En.rt x H'
 | .ok (.bk ρ) => ∀ (σ : SV) S' H', Ext Fr S S' -> Ok G B Fr S' ρ σ H' -> En.bk σ H'
 | .ok (.ct ρ) => ∀ (σ : SV) S' H', Ext Fr S S' -> Ok G B Fr S' ρ σ H' -> En.ct σ H'
 | .err c ρ => ∀ (σ : SV) S' H', Ext Fr S S' -> Ok G B Fr S' ρ σ H' -> ∀ C, G.mg c.nm = some (.ref C) -> ∀ dd, ErrD G S' H' c dd -> W (.ref C) dd σ H'
 | .stuck => False
def sM (m : ME -> MS) : TS := fun En σ H => ∃ B Fr S ρ, Ok G B Fr S ρ σ H /\ ContS G W B Fr S En (m ρ)
end
section
variable {G : Gd} {W : WX} {B : BxA} {Fr S S' : Hp} {ρ : ME} {σ : SV} {H : Hp} {En : Ends}
theorem ContS.mono {r : MS} (h : ContS G W B Fr S En r) (e : Ext Fr S S') : ContS G W B Fr S' En r := by
 cases r with
 | ok p => cases p with
  | nx ρ => exact fun σ S2 H2 e2 o => h σ S2 H2 (e.trans e2) o
  | rt s ρ => exact fun σ x S2 H2 e2 o => h σ x S2 H2 (e.trans e2) o
  | bk ρ => exact fun σ S2 H2 e2 o => h σ S2 H2 (e.trans e2) o
  | ct ρ => exact fun σ S2 H2 e2 o => h σ S2 H2 (e.trans e2) o
 | err c ρ => exact fun σ S2 H2 e2 o => h σ S2 H2 (e.trans e2) o
 | stuck => exact h
def frzS (r : MR) (f : D -> ME -> MS) : MS := match r with
 | .ok (.v d, ρ) => f d ρ
 | .ok (.own d, ρ) => f d ρ
 | .ok _ => .stuck
 | .err c ρ => .err c ρ
 | .stuck => .stuck
theorem opndS {m : ME -> MR} {f : D -> ME -> MS} {P : V -> Hp -> Prop} (h : Ok G B Fr S ρ σ H) (hc : ContS G W B Fr S En (frzS (m ρ) f))
    (k : ∀ d ρ1 x S1 H1, Ext Fr S S1 -> Ok G B Fr S1 ρ1 σ H1 -> Rep G S1 x d -> ContS G W B Fr S1 En (f d ρ1) -> P x H1) : tM G W m σ H P := by
  refine ⟨B, Fr, S, ρ, h, ?_⟩
  cases e : m ρ with
  | ok p =>
    obtain ⟨s, ρ1⟩ := p
    intro x S1 H1 e1 o
    rw [e] at hc
    cases s with
    | v d =>
      obtain ⟨x', q1, q2⟩ := o.vs 0 d rfl
      have q3 : x = x' := by simpa using q1
      subst q3
      exact k d ρ1 x S1 H1 e1 o.tail q2 (ContS.mono (show ContS G W B Fr S En (f d ρ1) from hc) e1)
    | own d =>
      obtain ⟨y, S2, q1, e2, o2, r⟩ := o.freezeTop
      cases q1
      exact k d ρ1 x S2 H1 (e1.trans e2) o2 r (ContS.mono (show ContS G W B Fr S En (f d ρ1) from hc) (e1.trans e2))
    | no => exact hc.elim
    | pt _ => exact hc.elim
    | bor _ _ => exact hc.elim
    | hp _ => exact hc.elim
    | box d => exact hc.elim
  | err c ρ1 =>
    rw [e] at hc
    exact fun S' H' e1 o => hc σ S' H' e1 o
  | stuck =>
    rw [e] at hc
    exact hc
theorem tstS {m : ME -> MB} {f : Bool × ME -> MS} {P : Bool -> Hp -> Prop} (h : Ok G B Fr S ρ σ H) (hc : ContS G W B Fr S En (bnd (m ρ) f))
    (k : ∀ b ρ1 S1 H1, Ext Fr S S1 -> Ok G B Fr S1 ρ1 σ H1 -> ContS G W B Fr S1 En (f (b, ρ1)) -> P b H1) : tT G W m σ H P := by
  refine ⟨B, Fr, S, ρ, h, ?_⟩
  cases e : m ρ with
  | ok p =>
    obtain ⟨b, ρ1⟩ := p
    intro S1 H1 e1 o
    rw [e] at hc
    exact k b ρ1 S1 H1 e1 o (ContS.mono hc e1)
  | err c ρ1 => rw [e] at hc; exact fun S' H' e1 o => hc σ S' H' e1 o
  | stuck => rw [e] at hc; exact hc
end
def mSkip : ME -> MS := fun ρ => .ok (.nx ρ)
def mSeq (a b : ME -> MS) : ME -> MS := fun ρ => match a ρ with
 | .ok (.nx ρ1) => b ρ1
 | r => r
def mDrop (m : ME -> MR) : ME -> MS := fun ρ => frzS (m ρ) fun _ ρ1 => .ok (.nx ρ1)
def mRet (m : ME -> MR) : ME -> MS := fun ρ => bnd (m ρ) fun p => .ok (.rt p.1 p.2)
def mRetN : ME -> MS := fun ρ => .ok (.rt (.v .non) ρ)
def mSet (i : Nat) (m : ME -> MR) : ME -> MS := fun ρ => match m ρ with
 | .ok (.v d, ρ1) => .ok (.nx (ρ1.set i (.v d)))
 | .ok (.own d, ρ1) => .ok (.nx (ρ1.set i (.own d)))
 | .ok (.pt k, ρ1) => .ok (.nx (ρ1.set i (.pt k)))
 | .ok (.bor k d, ρ1) => .ok (.nx (ρ1.set i (.bor k d)))
 | .ok (.hp cs, ρ1) => .ok (.nx (ρ1.set i (.hp cs)))
 | .ok _ => .stuck
 | .err c ρ1 => .err c ρ1
 | .stuck => .stuck
def mIfS (c : ME -> MB) (a b : ME -> MS) : ME -> MS := fun ρ => bnd (c ρ) fun p => if p.1 then a p.2 else b p.2
section
variable {X : Cx} {W : WX} {pos : Pos} {st : Stmt} {rest sts : List Stmt} {e : Expr} {m : ME -> MR} {a b : ME -> MS} {c : ME -> MB}
theorem ss_nil : PSs X [] (sM (gOf X) W mSkip) := PSs.imp pss_nil fun En σ H h => by
 obtain ⟨B, Fr, S, ρ, o, q⟩ := h
 exact q σ S H Ext.refl o
theorem seq_walk {G : Gd} {En : Ends} {σ : SV} {H : Hp} (h : sM G W (mSeq a b) En σ H) : tSeq (sM G W a) (sM G W b) En σ H := by
 obtain ⟨B, Fr, S, ρ, o, q⟩ := h
 refine ⟨B, Fr, S, ρ, o, ?_⟩
 unfold mSeq at q
 cases e : a ρ with
 | ok p =>
  rw [e] at q
  cases p with
  | nx ρ1 => exact fun σ' S' H' e1 o1 => ⟨B, Fr, S', ρ1, o1, ContS.mono q e1⟩
  | rt s ρ1 => exact q
  | bk ρ1 => exact q
  | ct ρ1 => exact q
 | err cc ρ1 => rw [e] at q; exact q
 | stuck => rw [e] at q; exact q
theorem ss_cons (h1 : PS X st (sM (gOf X) W a)) (h2 : PSs X rest (sM (gOf X) W b)) : PSs X (st :: rest) (sM (gOf X) W (mSeq a b)) := PSs.imp (pss_cons h1 h2) fun _ _ _ h => seq_walk h
theorem ss_one (h1 : PS X st (sM (gOf X) W a)) : PSs X [st] (sM (gOf X) W a) := pss_one h1
theorem st_expr (he : PE X e (tM (gOf X) W m)) (hs : swapsWith e none pos.line X.env = pure false := by rfl) : PS X (.Expr e pos) (sM (gOf X) W (mDrop m)) := PS.imp (ps_expr he hs) fun En σ H h => by
 obtain ⟨B, Fr, S, ρ, o, q⟩ := h
 exact opndS o q fun d ρ1 x S1 H1 e1 o1 r1 c1 => c1 σ S1 H1 Ext.refl o1
theorem st_ret (he : PE X e (tM (gOf X) W m)) : PS X (.Return (some e) pos) (sM (gOf X) W (mRet m)) := PS.imp (ps_ret he) fun En σ H h => by
 obtain ⟨B, Fr, S, ρ, o, q⟩ := h
 refine ⟨B, Fr, S, ρ, o, ?_⟩
 unfold mRet at q
 cases e : m ρ with
 | ok p =>
  rw [e] at q
  exact fun x S' H' e1 o1 => q σ x S' H' e1 o1
 | err cc ρ1 => rw [e] at q; exact fun S' H' e1 o => q σ S' H' e1 o
 | stuck => rw [e] at q; exact q
theorem set_walk {G : Gd} {En : Ends} {i : Nat} {σ : SV} {H : Hp} (h : sM G W (mSet i m) En σ H) : tAsg (tM G W m) (gName i) En σ H := by
 obtain ⟨B, Fr, S, ρ, o, q⟩ := h
 refine ⟨B, Fr, S, ρ, o, ?_⟩
 unfold mSet at q
 cases e : m ρ with
 | ok p =>
  obtain ⟨s, ρ1⟩ := p
  rw [e] at q
  intro x S1 H1 e1 o1
  cases s with
  | v d => exact q _ S1 H1 e1 (o1.store fun _ z => nomatch z)
  | own d => exact q _ S1 H1 e1 (o1.store fun _ z => nomatch z)
  | no => exact q.elim
  | pt k => exact q _ S1 H1 e1 (o1.store fun _ z => nomatch z)
  | bor _ _ => exact q _ S1 H1 e1 (o1.store fun _ z => nomatch z)
  | hp _ => exact q _ S1 H1 e1 (o1.store fun _ z => nomatch z)
  | box d => exact q.elim
 | err cc ρ1 => rw [e] at q; exact fun S' H' e1 o => q σ S' H' e1 o
 | stuck => rw [e] at q; exact q
theorem st_set {x : Str} {pos' : Pos} (i : Nat) (hN : X.N.Nodup) (hi : X.N[i]? = some x) (hx : Loc X.env.scope x) (he : PE X e (tM (gOf X) W m)) (hs : swapsWith e (some (.Name x pos')) pos.line X.env = pure false := by rfl) (hf : X.fn x = true \/ X.env.scope.names.lookup x = some .local := by first | exact .inl rfl | exact .inr rfl | assumption) :
    PS X (.Assign [.Name x pos'] e pos) (sM (gOf X) W (mSet i m)) := PS.imp (ps_set hN hi hx he hs hf) fun _ _ _ h => set_walk h
theorem st_if {cd : Expr} {ss ts : List Stmt} (hc : PT X cd (tT (gOf X) W c)) (ha : PSs X ss (sM (gOf X) W a)) (hb : PSs X ts (sM (gOf X) W b)) : PS X (.If cd ss ts pos) (sM (gOf X) W (mIfS c a b)) := PS.imp (ps_if hc ha hb) fun En σ H h => by
 obtain ⟨B, Fr, S, ρ, o, q⟩ := h
 refine tstS o q fun bb ρ1 S1 H1 e1 o1 c1 => ?_
 cases bb with
 | true => exact ⟨B, Fr, S1, ρ1, o1, c1⟩
 | false => exact ⟨B, Fr, S1, ρ1, o1, c1⟩
end
abbrev MT := D -> ME -> Option ME
abbrev MTs := List D -> ME -> Option ME
def gM (G : Gd) (is : List Nat) (t : MT) : TG := fun x σ H P => ∃ B Fr S ρ d ρ', Ok G B Fr S ρ σ H /\ Rep G S x d /\ t d ρ = some ρ' /\ ∀ σ', Ok G B Fr S ρ' σ' H -> σ'.length = σ.length -> (∀ j, j ∉ is -> σ'[j]? = σ[j]?) -> P σ' H
def tgName (i : Nat) : MT := fun d ρ => some (ρ.set i (.v d))
def tgNil : MTs := fun ds ρ => match ds with
 | [] => some ρ
 | _ => none
def tgCons (t : MT) (ts : MTs) : MTs := fun ds ρ => match ds with
 | d :: ds => (t d ρ).bind (ts ds)
 | [] => none
def tgTup (n : Nat) (ts : MTs) : MT := fun d ρ => match d with
 | .tup ds => if ds.length = n then ts ds ρ else none
 | .ktp ds => if ds.length = n then ts ds ρ else none
 | _ => none
theorem PG.imp {X : Cx} {e : Expr} {t t' : TG} (h : PG X e t) (hi : ∀ x σ H P, t' x σ H P -> t x σ H P) : PG X e t' := ⟨fun pins s σ H v u Q I r q => h.run pins s σ H v u Q I r (hi v σ H Q q)⟩
theorem PGs.imp {X : Cx} {e : List Expr} {t t' : TGs} (h : PGs X e t) (hi : ∀ x σ H P, t' x σ H P -> t x σ H P) : PGs X e t' := ⟨fun pins s σ H v u Q I r q => h.run pins s σ H v u Q I r (hi v σ H Q q)⟩
section
variable {X : Cx} {pos : Pos} {t : MT} {ts : MTs} {is js : List Nat}
theorem mg_name {x : Str} (i : Nat) (hN : X.N.Nodup) (hi : X.N[i]? = some x) (hx : Loc X.env.scope x) (hf : X.fn x = true \/ X.env.scope.names.lookup x = some .local := by first | exact .inl rfl | exact .inr rfl | assumption) : PG X (.Name x pos) (gM (gOf X) [i] (tgName i)) :=
 PG.imp (pg_name hN hi hx hf) fun x σ H P h => by
  obtain ⟨B, Fr, S, ρ, d, ρ', o, r, e, k⟩ := h
  cases e
  exact k _ ((o.push r).store fun _ z => nomatch z) (List.length_set ..) fun j hj => List.getElem?_set_ne (fun z => hj (by simp [z]))
def mAsg (t : MT) (m : ME -> MR) : ME -> MS := fun ρ => frzS (m ρ) fun d ρ1 => match t d ρ1 with
 | some ρ2 => .ok (.nx ρ2)
 | none => .stuck
end
def mPar (is : List Nat) (ms : ME -> ML) : ME -> MS := fun ρ => bnd (ms ρ) fun p => if p.1.length = is.length then .ok (.nx ((is.zip p.1).foldl (fun ρ q => ρ.set q.1 (.v q.2)) p.2)) else .stuck
def FrLe (Fr Fr' : Hp) : Prop := ∀ b o, Fr b = some o -> Fr' b = some o
theorem FrLe.rfl' {Fr : Hp} : FrLe Fr Fr := fun _ _ h => h
structure WalkD (G : Gd) (Fr S : Hp) (J : It) (ds : List D) : Prop where
 goes : ∀ (i : Nat) B Fr' S' ρ σ H, i < ds.length -> FrLe Fr Fr' -> Same S S' -> Ok G B Fr' S' ρ σ H -> J.go i H
 stops : ∀ B Fr' S' ρ σ H, FrLe Fr Fr' -> Same S S' -> Ok G B Fr' S' ρ σ H -> J.stop ds.length H
 yields : ∀ (i : Nat) B Fr' S' ρ σ H x H', i < ds.length -> FrLe Fr Fr' -> Same S S' -> Ok G B Fr' S' ρ σ H -> J.yld i H x H' -> ∃ S'' d, Ext Fr' S' S'' /\ Ok G B Fr' S'' ρ σ H' /\ ds[i]? = some d /\ Rep G S'' x d
abbrev MI := Res (List D × ME)
section
variable (G : Gd) (W : WX)
def ContI (B : BxA) (Fr S : Hp) (σ : SV) (R : It -> Hp -> Prop) : MI -> Prop
 | .ok (ds, ρ) => ∀ J S' H', Ext Fr S S' -> Ok G B Fr S' ρ σ H' -> WalkD G Fr S' J ds -> R J H'
 | .err c ρ => ∀ S' H', Ext Fr S S' -> Ok G B Fr S' ρ σ H' -> ∀ C, G.mg c.nm = some (.ref C) -> ∀ dd, ErrD G S' H' c dd -> W (.ref C) dd σ H'
 | .stuck => False
def tI (m : ME -> MI) : TI := fun σ H R => ∃ B Fr S ρ, Ok G B Fr S ρ σ H /\ ContI G W B Fr S σ R (m ρ)
end
theorem PI.imp {X : Cx} {tg e : Expr} {t t' : TI} (h : PI X tg e t) (hi : ∀ σ H R, t' σ H R -> t σ H R) : PI X tg e t' := ⟨fun pins s σ H R I q => h.run pins s σ H R I (hi σ H R q)⟩
section
variable {G : Gd} {W : WX} {B : BxA} {Fr S S' : Hp} {ρ : ME} {σ : SV} {H : Hp} {R : It -> Hp -> Prop}
theorem ContI.mono {r : MI} (h : ContI G W B Fr S σ R r) (e : Ext Fr S S') : ContI G W B Fr S' σ R r := by
 cases r with
 | ok p => exact fun J S2 H2 e2 o w => h J S2 H2 (e.trans e2) o w
 | err c ρ => exact fun S2 H2 e2 o => h S2 H2 (e.trans e2) o
 | stuck => exact h
def frzI (r : MR) (f : D -> ME -> MI) : MI := match r with
 | .ok (.v d, ρ) => f d ρ
 | .ok (.own d, ρ) => f d ρ
 | .ok _ => .stuck
 | .err c ρ => .err c ρ
 | .stuck => .stuck
theorem opndI {m : ME -> MR} {f : D -> ME -> MI} {P : V -> Hp -> Prop} (h : Ok G B Fr S ρ σ H) (hc : ContI G W B Fr S σ R (frzI (m ρ) f))
    (k : ∀ d ρ1 x S1 H1, Ext Fr S S1 -> Ok G B Fr S1 ρ1 σ H1 -> Rep G S1 x d -> ContI G W B Fr S1 σ R (f d ρ1) -> P x H1) : tM G W m σ H P := by
  refine ⟨B, Fr, S, ρ, h, ?_⟩
  cases e : m ρ with
  | ok p =>
    obtain ⟨s, ρ1⟩ := p
    intro x S1 H1 e1 o
    rw [e] at hc
    cases s with
    | v d =>
      obtain ⟨x', q1, q2⟩ := o.vs 0 d rfl
      have q3 : x = x' := by simpa using q1
      subst q3
      exact k d ρ1 x S1 H1 e1 o.tail q2 (ContI.mono (show ContI G W B Fr S σ R (f d ρ1) from hc) e1)
    | own d =>
      obtain ⟨y, S2, q1, e2, o2, r⟩ := o.freezeTop
      cases q1
      exact k d ρ1 x S2 H1 (e1.trans e2) o2 r (ContI.mono (show ContI G W B Fr S σ R (f d ρ1) from hc) (e1.trans e2))
    | no => exact hc.elim
    | pt _ => exact hc.elim
    | bor _ _ => exact hc.elim
    | hp _ => exact hc.elim
    | box d => exact hc.elim
  | err c ρ1 => rw [e] at hc; exact hc
  | stuck => rw [e] at hc; exact hc
theorem argsI {m : ME -> ML} {f : List D × ME -> MI} {P : List V -> Hp -> Prop} (h : Ok G B Fr S ρ σ H) (hc : ContI G W B Fr S σ R (bnd (m ρ) f))
    (k : ∀ ds ρ1 xs S1 H1, Ext Fr S S1 -> Ok G B Fr S1 ρ1 σ H1 -> Reps G S1 xs ds -> ContI G W B Fr S1 σ R (f (ds, ρ1)) -> P xs H1) : tMs G W m σ H P := by
  refine ⟨B, Fr, S, ρ, h, ?_⟩
  cases e : m ρ with
  | ok p =>
    obtain ⟨ds, ρ1⟩ := p
    intro xs S1 H1 e1 o r
    rw [e] at hc
    exact k ds ρ1 xs S1 H1 e1 o r (ContI.mono hc e1)
  | err c ρ1 => rw [e] at hc; exact hc
  | stuck => rw [e] at hc; exact hc
theorem reps_at {xs : List V} {ds : List D} (r : Reps G S xs ds) {i : Nat} {x : V} (h : xs[i]? = some x) : ∃ d, ds[i]? = some d /\ Rep G S x d := by
 induction ds generalizing xs i with
 | nil => simp only [Reps] at r; subst r; cases h
 | cons d ds ih =>
  simp only [Reps] at r
  obtain ⟨v, vr, rfl, hv, r⟩ := r
  cases i with
  | zero => cases h; exact ⟨d, rfl, hv⟩
  | succ i => exact ih r h
theorem walk_tup {Fr0 : Hp} {a : Addr} {vs : List V} {ds : List D} (hs : ∀ B Fr S' ρ σ H, Same S S' -> Ok G B Fr S' ρ σ H -> SqT G.K H a vs) (r : Reps G S vs ds) : WalkD G Fr0 S (Itt G.K a) ds where
 goes := fun i B Fr S' ρ σ H hi _ sm o => by
  have hl := r.length
  exact ⟨vs, vs[i], hs _ _ _ _ _ _ sm o, by simp⟩
 stops := fun B Fr S' ρ σ H _ sm o => ⟨vs, hs _ _ _ _ _ _ sm o, by rw [r.length]; exact Nat.le_refl _⟩
 yields := fun i B Fr S' ρ σ H x H' hi _ sm o y => by
  obtain ⟨rfl, y⟩ := y
  obtain ⟨d, e, q⟩ := reps_at (r.mono sm) (y vs (hs _ _ _ _ _ _ sm o))
  exact ⟨S', d, Ext.refl, o, e, q⟩
theorem walk_rng1 {Fr0 : Hp} {lo : Int} {n : Nat} : WalkD G Fr0 S (Itr lo n) ((List.range n).map fun i => .int (lo + (i : Nat))) where
 goes := fun i B Fr S' ρ σ H hi _ sm o => by
  simp at hi
  exact hi
 stops := fun B Fr S' ρ σ H _ sm o => by
  show n ≤ _
  simp
 yields := fun i B Fr S' ρ σ H x H' hi _ sm o y => by
  obtain ⟨rfl, rfl⟩ := y
  simp at hi
  exact ⟨S', .int (lo + (i : Nat)), Ext.refl, o, by simp [hi], by simp only [Rep]⟩
end
def mItL (m : ME -> MR) : ME -> MI := fun ρ => frzI (m ρ) fun d ρ1 => match d with
 | .lst ds => .ok (ds, ρ1)
 | _ => .stuck
def mItT (m : ME -> MR) : ME -> MI := fun ρ => frzI (m ρ) fun d ρ1 => match d with
 | .tup ds => .ok (ds, ρ1)
 | .ktp ds => .ok (ds, ρ1)
 | _ => .stuck
def rngL (lo : Int) (n : Nat) : List D := (List.range n).map fun i => .int (lo + (i : Nat))
def smI (j : Int) : Bool := Nat.ble j.natAbs 1000000000
theorem smI_iff {j : Int} (h : smI j = true) : -(2 ^ 62) ≤ j /\ j < 2 ^ 62 := by
 have h2 : j.natAbs ≤ 1000000000 := Nat.le_of_ble_eq_true h
 omega
def mRng1 (ms : ME -> ML) : ME -> MI := fun ρ => bnd (ms ρ) fun p => match p.1 with
 | [.int j] => if smI j then .ok (rngL 0 j.toNat, p.2) else .stuck
 | _ => .stuck
def mRng2 (ms : ME -> ML) : ME -> MI := fun ρ => bnd (ms ρ) fun p => match p.1 with
 | [.int i, .int j] => if smI i && smI j then .ok (rngL i (j - i).toNat, p.2) else .stuck
 | _ => .stuck
section
variable {X : Cx} {W : WX} {pos : Pos} {tg e : Expr} {m : ME -> MR} {ms : ME -> ML}
theorem mi_list (he : PE X e (tM (gOf X) W m)) : PI X tg e (tI (gOf X) W (mItL m)) := PI.imp (pi_list he) fun σ H R h => by
 obtain ⟨B, Fr, S, ρ, o, q⟩ := h
 refine opndI o q fun d ρ1 x S1 H1 e1 o1 r1 c1 => ?_
 cases d with
 | lst ds =>
  simp only [Rep] at r1
  obtain ⟨a, vs, rfl, hs, r⟩ := r1
  refine ⟨a, rfl, ⟨vs, SqL.of (o1.lstAt hs)⟩, c1 _ S1 H1 Ext.refl o1 ⟨fun i B Fr S' ρ σ H hi _ sm o => ?_, fun B Fr S' ρ σ H _ sm o => ?_, fun i B Fr S' ρ σ H x H' hi _ sm o y => ?_⟩⟩
  ·have hl := r.length
   exact ⟨vs, vs[i], SqL.of (o.lstAt (sm _ _ hs)), by simp⟩
  ·exact ⟨vs, SqL.of (o.lstAt (sm _ _ hs)), by rw [r.length]; exact Nat.le_refl _⟩
  ·obtain ⟨rfl, y⟩ := y
   obtain ⟨d, e, q⟩ := reps_at (r.mono sm) (y vs (SqL.of (o.lstAt (sm _ _ hs))))
   exact ⟨S', d, Ext.refl, o, e, q⟩
 | _ => exact c1.elim
theorem mi_tup (he : PE X e (tM (gOf X) W m)) : PI X tg e (tI (gOf X) W (mItT m)) := PI.imp (pi_tup he) fun σ H R h => by
 obtain ⟨B, Fr, S, ρ, o, q⟩ := h
 refine opndI o q fun d ρ1 x S1 H1 e1 o1 r1 c1 => ?_
 cases d with
 | tup ds =>
  simp only [Rep] at r1
  obtain ⟨a, vs, rfl, hs, r⟩ := r1
  exact ⟨a, rfl, ⟨vs, SqT.of (o1.tupAt hs)⟩, c1 _ S1 H1 Ext.refl o1 (walk_tup (fun B Fr S' ρ σ H sm o => SqT.of (o.tupAt (sm _ _ hs))) r)⟩
 | ktp ds =>
  simp only [Rep] at r1
  obtain ⟨a, vs, rfl, hs, r⟩ := r1
  exact ⟨a, rfl, ⟨vs, sqT_k hs⟩, c1 _ S1 H1 Ext.refl o1 (walk_tup (fun B Fr S' ρ σ H sm o => sqT_k hs) r)⟩
 | _ => exact c1.elim
theorem mi_rng1 {a : Expr} {p : Pos} (hg : Gl X "range") (hm : X.mg "range" = none) (ha : PA X [a] (tMs (gOf X) W ms)) (hs : starEach [a] X.env = [(false, eval a X.env)] := by rfl) : PI X tg (.Call (.Name "range" p) [a] [] pos) (tI (gOf X) W (mRng1 ms)) := PI.imp (pi_range1 hg hm ha hs) fun σ H R h => by
 obtain ⟨B, Fr, S, ρ, o, q⟩ := h
 refine argsI o q fun ds ρ1 xs S1 H1 e1 o1 r1 c1 => ?_
 dsimp only at c1
 split at c1
 ·split at c1
  ·rename_i j hj
   obtain ⟨x, rfl, r⟩ := reps1 r1
   simp only [Rep] at r
   subst r
   exact ⟨_, rfl, (smI_iff hj).1, (smI_iff hj).2, c1 _ S1 H1 Ext.refl o1 walk_rng1⟩
  ·exact c1.elim
 ·exact c1.elim
end
def mLoop (t : MT) (mb : ME -> MS) : List D -> ME -> MS
 | [], ρ => .ok (.nx ρ)
 | d :: ds, ρ => match t d ρ with
  | none => .stuck
  | some ρ1 => match mb ρ1 with
   | .ok (.nx ρ2) => mLoop t mb ds ρ2
   | .ok (.ct ρ2) => mLoop t mb ds ρ2
   | .ok (.bk ρ2) => .ok (.nx ρ2)
   | r => r
def mFor (mi : ME -> MI) (t : MT) (mb : ME -> MS) : ME -> MS := fun ρ => bnd (mi ρ) fun p => mLoop t mb p.1 p.2
section
variable {X : Cx} {W : WX} {pos : Pos} {tg e : Expr} {mi : ME -> MI} {t : MT} {mb : ME -> MS} {body : List Stmt} {is : List Nat}
theorem itS {G : Gd} {B : BxA} {Fr S : Hp} {ρ : ME} {σ : SV} {H : Hp} {En : Ends} {f : List D × ME -> MS} {R : It -> Hp -> Prop} (h : Ok G B Fr S ρ σ H) (hc : ContS G W B Fr S En (bnd (mi ρ) f))
    (k : ∀ ds ρ1 J S1 H1, Ext Fr S S1 -> Ok G B Fr S1 ρ1 σ H1 -> WalkD G Fr S1 J ds -> ContS G W B Fr S1 En (f (ds, ρ1)) -> R J H1) : tI G W mi σ H R := by
  refine ⟨B, Fr, S, ρ, h, ?_⟩
  cases e : mi ρ with
  | ok p =>
    obtain ⟨ds, ρ1⟩ := p
    intro J S1 H1 e1 o w
    rw [e] at hc
    exact k ds ρ1 J S1 H1 e1 o w (ContS.mono hc e1)
  | err c ρ1 => rw [e] at hc; exact fun S' H' e1 o => hc σ S' H' e1 o
  | stuck => rw [e] at hc; exact hc
theorem st_for (hp : PassesOwn (model X.prog X.w) X.A X.env X.xe) (hc : X.calm = true) (hi : PI X tg e (tI (gOf X) W mi)) (hg : PG X tg (gM (gOf X) is t)) (hb : PSs X body (sM (gOf X) W mb))
    (hs : ∀ x, foldedSetIterable e X.env x = pure x := by intro _; rfl) : PS X (.For tg e body [] pos) (sM (gOf X) W (mFor mi t mb)) := PS.imp (ps_for hp hc hi hg hb hs) fun En σ H h => by
  obtain ⟨B, Fr, S, ρ, o, q⟩ := h
  refine itS o q fun ds ρ1 J S1 H1 e1 o1 w c1 => ?_
  refine ⟨fun i m σ' H' => m = ds.length - i /\ i ≤ ds.length /\ ∃ S2 ρ2, Ext Fr S1 S2 /\ Ok (gOf X) B Fr S2 ρ2 σ' H' /\ ContS (gOf X) W B Fr S2 En (mLoop t mb (ds.drop i) ρ2), ⟨ds.length, rfl, Nat.zero_le _, S1, ρ1, Ext.refl, o1, c1⟩, ?_⟩
  rintro i m σ2 H2 ⟨rfl, hi, S2, ρ2, e2, o2, c2⟩
  by_cases hlt : i < ds.length
  · refine .inr ⟨w.goes i _ _ _ _ _ _ hlt FrLe.rfl' e2.same o2, fun σ' H' => ∃ S2 ρ2, Ext Fr S1 S2 /\ Ok (gOf X) B Fr S2 ρ2 σ' H' /\ ContS (gOf X) W B Fr S2 En (mLoop t mb (ds.drop (i + 1)) ρ2), fun σ' H' n' => ⟨ds.length - (i + 1), by omega, rfl, hlt, n'⟩, fun x H' y => ?_⟩
    obtain ⟨S3, d, e3, o3, hd, r3⟩ := w.yields i _ _ _ _ _ _ _ _ hlt FrLe.rfl' e2.same o2 y
    have hdr : ds.drop i = d :: ds.drop (i + 1) := by
      rw [List.drop_eq_getElem_cons hlt]
      have z : ds[i] = d := by rw [List.getElem?_eq_getElem hlt] at hd; exact Option.some.inj hd
      rw [z]
    rw [hdr] at c2
    unfold mLoop at c2
    cases z : t d ρ2 with
    | none => rw [z] at c2; exact c2.elim
    | some ρ3 =>
      rw [z] at c2
      dsimp only at c2
      refine ⟨B, Fr, S3, ρ2, d, ρ3, o3, r3, z, fun σ3 o4 _ _ => ⟨B, Fr, S3, ρ3, o4, ?_⟩⟩
      have c3 := ContS.mono c2 e3
      cases z2 : mb ρ3 with
      | ok f =>
        rw [z2] at c3
        cases f with
        | nx ρ4 => exact fun σ' S' H' e' o' => ⟨S', ρ4, (e2.trans e3).trans e', o', ContS.mono c3 e'⟩
        | ct ρ4 => exact fun σ' S' H' e' o' => ⟨S', ρ4, (e2.trans e3).trans e', o', ContS.mono c3 e'⟩
        | bk ρ4 => exact c3
        | rt s ρ4 => exact c3
      | err cc ρ4 => rw [z2] at c3; exact c3
      | stuck => rw [z2] at c3; exact c3
  · have hz : i = ds.length := by omega
    subst hz
    rw [List.drop_length] at c2
    exact .inl ⟨w.stops _ _ _ _ _ _ FrLe.rfl' e2.same o2, c2 σ2 S2 H2 Ext.refl o2⟩
end
def mWN (c : ME -> MB) (b : ME -> MS) : Nat -> ME -> MS
 | 0, _ => .stuck
 | n + 1, ρ => match c ρ with
  | .ok (true, ρ1) => match b ρ1 with
   | .ok (.nx ρ2) => mWN c b n ρ2
   | .ok (.ct ρ2) => mWN c b n ρ2
   | .ok (.bk ρ2) => .ok (.nx ρ2)
   | r => r
  | .ok (false, ρ1) => .ok (.nx ρ1)
  | .err cc ρ1 => .err cc ρ1
  | .stuck => .stuck
theorem mWN_up {c : ME -> MB} {b : ME -> MS} : ∀ (n : Nat) (ρ : ME), mWN c b n ρ ≠ .stuck -> mWN c b (n + 1) ρ = mWN c b n ρ := by
 intro n
 induction n with
 | zero => intro ρ h; exact absurd rfl h
 | succ n ih =>
  intro ρ h
  rw [mWN]
  conv => rhs; rw [mWN]
  rw [mWN] at h
  cases hc : c ρ with
  | ok p =>
   obtain ⟨k, ρ1⟩ := p
   rw [hc] at h
   cases k with
   | false => rfl
   | true =>
    dsimp only at h ⊢
    cases hb : b ρ1 with
    | ok f =>
     rw [hb] at h
     cases f with
     | nx ρ2 => exact ih ρ2 h
     | ct ρ2 => exact ih ρ2 h
     | bk ρ2 => rfl
     | rt s ρ2 => rfl
    | err cc ρ2 => rfl
    | stuck => rfl
  | err cc ρ1 => rfl
  | stuck => rfl
theorem mWN_le {c : ME -> MB} {b : ME -> MS} {n m : Nat} {ρ : ME} (hnm : n ≤ m) (h : mWN c b n ρ ≠ .stuck) : mWN c b m ρ = mWN c b n ρ := by
  induction m with
  | zero => have : n = 0 := by omega
            subst this; rfl
  | succ m ih =>
    by_cases hz : n = m + 1
    · subst hz; rfl
    · have q := ih (by omega)
      rw [<- q, mWN_up]
      rw [q]; exact h
open Classical in
noncomputable def mWhile (c : ME -> MB) (b : ME -> MS) : ME -> MS := fun ρ => if h : ∃ n, mWN c b n ρ ≠ .stuck then mWN c b (Classical.choose h) ρ else .stuck
theorem mWhile_eq {c : ME -> MB} {b : ME -> MS} {ρ : ME} (n : Nat) {r : MS} (h : mWN c b n ρ = r) (hr : r ≠ .stuck) : mWhile c b ρ = r := by
 unfold mWhile
 have hn : mWN c b n ρ ≠ .stuck := by rw [h]; exact hr
 have ex : ∃ n, mWN c b n ρ ≠ .stuck := ⟨n, hn⟩
 rw [dif_pos ex]
 have h2 := Classical.choose_spec ex
 rcases Nat.le_total n (Classical.choose ex) with q | q
 ·rw [mWN_le q hn, h]
 ·rw [<- h, mWN_le q h2]
theorem Ext.anti {Fr Fr' S S' : Hp} (h : Ext Fr' S S') (k : ∀ b o, S b = none -> Fr b = some o -> NT o -> ∃ o', Fr' b = some o' /\ NT o') : Ext Fr S S' := ⟨h.same, fun b o hb hf n => by
 obtain ⟨o', h1, h2⟩ := k b o hb hf n
 exact h.fresh b o' hb h1 h2⟩
section
variable {G : Gd} {B : BxA} {Fr S : Hp} {ρ : ME} {σ : SV} {H : Hp}
theorem Ok.bump {p : Addr} {o o' : HO} (h : Ok G B Fr S ρ σ H) (hF : Fr p = some o) (hS : S p = none) : Ok G B (upd Fr p o') S ρ σ (upd H p o') := by
 refine ⟨fun b u e => ?_, fun b u e => ?_, h.len, h.vs, fun i s d e hd => ?_, h.bx, h.inj, h.ce.heap Same.refl (fun _ _ z => z) fun a u e1 e2 e3 _ _ => by
  have hb : a ≠ p := fun z => by rw [z, hF] at e3; cases e3
  exact ⟨by rw [upd_ne hb]; exact e1, e2, by rw [upd_ne hb]; exact e3⟩⟩
 ·by_cases hb : b = p
  ·subst hb; rw [upd_same] at e ⊢; exact e
  ·rw [upd_ne hb] at e ⊢; exact h.fr b u e
 ·have hb : b ≠ p := fun z => by rw [z, hS] at e; cases e
  have q := h.st b u e
  rw [upd_ne hb, upd_ne hb]; exact q
 ·obtain ⟨a, u, e1, e2, r, e3, e4⟩ := h.ow i s d e hd
  have hb : a ≠ p := fun z => by rw [z, hF] at e4; cases e4
  exact ⟨a, u, e1, by rw [upd_ne hb]; exact e2, r, e3, by rw [upd_ne hb]; exact e4⟩
theorem Ok.lay {p : Addr} {o' : HO} (h : Ok G B Fr S ρ σ H) (hp : H p = none) : Ok G B (upd Fr p o') S ρ σ (upd H p o') := by
 have keep : ∀ {b u}, H b = some u -> upd H p o' b = some u := fun {b u} e => by rw [upd_ne (ne_of_none e hp)]; exact e
 obtain ⟨f, s⟩ := h.free hp
 refine ⟨fun b u e => ?_, fun b u e => ?_, h.len, h.vs, fun i s d e hd => ?_, h.bx, h.inj, h.ce.heap Same.refl (fun _ _ z => z) fun a u e1 e2 e3 _ _ => ⟨keep e1, e2, by rw [upd_ne (ne_of_none e1 hp)]; exact e3⟩⟩
 ·by_cases hb : b = p
  ·subst hb; rw [upd_same] at e ⊢; exact e
  ·rw [upd_ne hb] at e ⊢; exact h.fr b u e
 ·rcases h.st b u e with z | ⟨l, od, z, zf⟩
  ·exact .inl (keep z)
  ·exact .inr ⟨l, od, keep z, by rw [upd_ne (ne_of_none zf f)]; exact zf⟩
 ·obtain ⟨a, u, e1, e2, r, e3, e4⟩ := h.ow i s d e hd
  exact ⟨a, u, e1, keep e2, r, e3, by rw [upd_ne (ne_of_none e2 hp)]; exact e4⟩
theorem Ok.less {Fr' : Hp} (h : Ok G B Fr' S ρ σ H) (k : ∀ b o, Fr b = some o -> Fr' b = some o) (kS : ∀ b o od, S b = some o -> Fr' b = some (.frz od o) -> Fr b = some (.frz od o)) : Ok G B Fr S ρ σ H := by
 refine ⟨fun b u e => h.fr b u (k b u e), fun b u e => (h.st b u e).imp id fun ⟨l, od, z, zf⟩ => ⟨l, od, z, kS b u od e zf⟩, h.len, h.vs, fun i s d e hd => ?_, h.bx, h.inj, h.ce.heap Same.refl (fun _ _ z => z) fun a u e1 e2 e3 _ _ => ⟨e1, e2, by
  cases q : Fr a with
  | none => rfl
  | some o => rw [k a o q] at e3; cases e3⟩⟩
 obtain ⟨a, u, e1, e2, r, e3, e4⟩ := h.ow i s d e hd
 refine ⟨a, u, e1, e2, r, e3, ?_⟩
 cases q : Fr a with
 | none => rfl
 | some o => rw [k a o q] at e4; cases e4
theorem Ok.takeFr {Fr' : Hp} {p : Addr} {o : HO} {d : D} (h : Ok G B Fr' S ρ σ H) (k : ∀ b o, Fr b = some o -> Fr' b = some o) (kS : ∀ b o od, S b = some o -> Fr' b = some (.frz od o) -> Fr b = some (.frz od o))
    (hp : Fr' p = some o) (r : RepO G S o d) (hS : S p = none) (hF : Fr p = none) : Ok G B Fr S (.own d :: ρ) (some (.ref p) :: σ) H := by
  refine (h.less k kS).pushOwn (h.fr p o hp) r hS hF (fun i s e he hd z => ?_) fun i cs e => ?_
  · obtain ⟨a, u, f1, _, _, _, f5⟩ := h.ow i s e he hd
    rw [z] at f1; cases f1
    rw [hp] at f5; cases f5
  · obtain ⟨α, c⟩ := h.ce.ex i cs e
    refine ⟨α, c.heap Same.refl (fun _ _ z => z) fun a u e1 e2 e3 _ _ => ⟨e1, e2, ?_⟩, fun j c' z1 z2 z3 => ?_⟩
    · cases q : Fr a with
      | none => rfl
      | some o => rw [k a o q] at e3; cases e3
    · obtain ⟨a, u, q1, _, _, _, q5⟩ := c.at_ j c' z1 z2
      rw [z3] at q1; cases q1
      rw [hp] at q5; cases q5
theorem Ok.wipe1 (h : Ok G B Fr S ρ σ H) (i : Nat) (x : Option V) : Ok G B Fr S (ρ.set i .no) (σ.set i x) H := (h.pushNo (x := x)).store fun _ z => nomatch z
end
def wipeM (ρ : ME) : List Nat -> ME
 | [] => ρ
 | v :: vs => (wipeM ρ vs).set v .no
theorem Ok.wipes {G : Gd} {B : BxA} {Fr S : Hp} {ρ : ME} {σ : SV} {H : Hp} (h : Ok G B Fr S ρ σ H) : ∀ vs, Ok G B Fr S (wipeM ρ vs) (wipe σ vs) H
 | [] => h
 | v :: vs => (h.wipes vs).wipe1 v none
def putBack (ρ0 ρ : ME) : List Nat -> ME
 | [] => ρ
 | v :: vs => (putBack ρ0 ρ vs).set v ((ρ0[v]?).getD .no)
def plain (ρ : ME) (v : Nat) : Bool := match ρ[v]? with
 | some (.own _) => false
 | some (.box _) => false
 | some (.pt _) => false
 | some (.bor _ _) => false
 | some (.hp _) => false
 | _ => true
theorem set_wipe {σ : SV} {v : Nat} {x : Option V} (h : σ[v]? = some x) : ∀ (τ : SV), (∀ j, j ≠ v -> τ[j]? = σ[j]?) -> τ.length = σ.length -> τ.set v x = σ := fun τ hj hl => by
 apply List.ext_getElem?
 intro j
 by_cases e : j = v
 ·subst e
  have := (List.getElem?_eq_some_iff.mp h).1
  rw [List.getElem?_set_self (by omega), h]
 ·rw [List.getElem?_set_ne (Ne.symm e), hj j e]
theorem wipe_in {σ τ : SV} (hl : τ.length = σ.length) {vs : List Nat} (h : ∀ j, j ∉ vs -> τ[j]? = σ[j]?) : wipe τ vs = wipe σ vs := by
 induction vs generalizing σ τ with
 | nil =>
  apply List.ext_getElem?
  intro j
  exact h j (by simp)
 | cons v vs ih =>
  show (wipe τ vs).set v none = (wipe σ vs).set v none
  apply List.ext_getElem?
  intro j
  by_cases e : v = j
  ·subst e
   by_cases hv : v < σ.length
   ·rw [List.getElem?_set_self (by rw [wipe_length]; omega), List.getElem?_set_self (by rw [wipe_length]; omega)]
   ·rw [List.getElem?_eq_none (by rw [List.length_set, wipe_length]; omega), List.getElem?_eq_none (by rw [List.length_set, wipe_length]; omega)]
  ·rw [List.getElem?_set_ne e, List.getElem?_set_ne e]
   by_cases hj : j ∈ vs
   ·have w0 : ∀ (σ : SV) (us : List Nat), j ∈ us -> (wipe σ us)[j]? = if j < σ.length then some none else none := by
     intro σ us
     induction us with
     | nil => intro h; cases h
     | cons u us ih2 =>
      intro hm
      show ((wipe σ us).set u none)[j]? = _
      by_cases hu : u = j
      ·subst hu
       by_cases hl2 : u < σ.length
       ·rw [List.getElem?_set_self (by rw [wipe_length]; exact hl2), if_pos hl2]
       ·rw [List.getElem?_eq_none (by rw [List.length_set, wipe_length]; omega), if_neg hl2]
      ·rw [List.getElem?_set_ne hu]
       rcases List.mem_cons.mp hm with z | z
       ·exact absurd z.symm hu
       ·exact ih2 z
    rw [w0 τ vs hj, w0 σ vs hj, hl]
   ·rw [L2.wipe_out hj, L2.wipe_out hj]
    exact h j (by simp [Ne.symm e, hj])
section
variable {G : Gd} {B : BxA} {Fr S S0 : Hp} {ρ ρ0 : ME} {σ : SV} {H H0 : Hp}
theorem Ok.back1 {τ : SV} {v : Nat} {s : Slot} {x : Option V} (h : Ok G B Fr S ρ τ H) (hs : s = .no \/ ∃ d y, s = .v d /\ x = some y /\ Rep G S y d) : Ok G B Fr S (ρ.set v s) (τ.set v x) H := by
 rcases hs with rfl | ⟨d, y, rfl, rfl, r⟩
 ·exact h.wipe1 v x
 ·exact (h.push r).store fun _ z => nomatch z
theorem Ok.backs {vs : List Nat} {Fr0 : Hp} (h0 : Ok G B Fr0 S0 ρ0 σ H0) (sm : Same S0 S) (pl : ∀ v ∈ vs, plain ρ0 v = true) (h : Ok G B Fr S ρ (wipe σ vs) H) : Ok G B Fr S (putBack ρ0 ρ vs) σ H := by
 induction vs generalizing ρ with
 | nil => exact h
 | cons v vs ih =>
  have hp := pl v (by simp)
  -- wipe σ (v :: vs) = (wipe σ vs).set v none : put v back first
  by_cases hv : v < σ.length
  ·have e1 : σ[v]? = some σ[v] := List.getElem?_eq_getElem hv
   have key : ((ρ0[v]?).getD .no) = .no \/ ∃ d y, (ρ0[v]?).getD .no = .v d /\ σ[v] = some y /\ Rep G S y d := by
    unfold plain at hp
    cases q : ρ0[v]? with
    | none => exact .inl rfl
    | some s =>
     rw [q] at hp
     cases s with
     | no => exact .inl rfl
     | pt _ => cases hp
     | bor _ _ => cases hp
     | hp _ => cases hp
     | v d =>
      obtain ⟨y, e, r⟩ := h0.vs v d q
      rw [e1] at e
      exact .inr ⟨d, y, rfl, Option.some.inj e, r.mono sm⟩
     | own d => cases hp
     | box d => cases hp
   -- generalize over the order: put back the others in the state with v still wiped
   have h2 := h.back1 (v := v) key
   show Ok G B Fr S ((putBack ρ0 ρ vs).set v _) σ H
   have h3 : Ok G B Fr S (ρ.set v ((ρ0[v]?).getD .no)) (wipe σ vs) H \/ True := .inr trivial
   by_cases hm : v ∈ vs
   ·-- v is wiped within vs as well
    have e2 : wipe σ (v :: vs) = wipe σ vs := by
     apply wipe_in (vs := v :: vs) (τ := σ) (σ := σ) rfl (fun _ _ => rfl) |> fun z => ?_
     apply List.ext_getElem?
     intro j
     show ((wipe σ vs).set v none)[j]? = _
     by_cases ej : v = j
     ·subst ej
      rw [List.getElem?_set_self (by rw [wipe_length]; exact hv)]
      have : ∀ us : List Nat, v ∈ us -> (wipe σ us)[v]? = some none := by
       intro us
       induction us with
       | nil => intro h; cases h
       | cons u us ih2 =>
        intro hm
        show ((wipe σ us).set u none)[v]? = _
        by_cases hu : u = v
        ·subst hu
         rw [List.getElem?_set_self (by rw [wipe_length]; exact hv)]
        ·rw [List.getElem?_set_ne hu]
         rcases List.mem_cons.mp hm with z | z
         ·exact absurd z.symm hu
         ·exact ih2 z
      rw [this vs hm]
     ·rw [List.getElem?_set_ne ej]
    rw [e2] at h
    have h4 := ih (fun u hu => pl u (by simp [hu])) h
    have h5 := h4.back1 (v := v) key
    have e5 : σ.set v σ[v] = σ := set_wipe e1 σ (fun _ _ => rfl) rfl
    rw [e5] at h5
    exact h5
   ·have e6 : (wipe σ (v :: vs)).set v σ[v] = wipe σ vs := by
     show ((wipe σ vs).set v none).set v σ[v] = wipe σ vs
     apply List.ext_getElem?
     intro j
     by_cases ej : v = j
     ·subst ej
      rw [List.getElem?_set_self (by rw [List.length_set, wipe_length]; exact hv), L2.wipe_out hm, e1]
     ·rw [List.getElem?_set_ne ej, List.getElem?_set_ne ej]
    rw [e6] at h2
    have h4 := ih (fun u hu => pl u (by simp [hu])) h2
    have e7 : ∀ us : List Nat, v ∉ us -> putBack ρ0 (ρ.set v ((ρ0[v]?).getD .no)) us = (putBack ρ0 ρ us).set v ((ρ0[v]?).getD .no) := by
     intro us
     induction us with
     | nil => intro _; rfl
     | cons u us ih2 =>
      intro hn
      show (putBack ρ0 (ρ.set v _) us).set u _ = ((putBack ρ0 ρ us).set u _).set v _
      rw [ih2 (fun z => hn (by simp [z])), List.set_comm _ _ (fun z => hn (by simp [z]))]
    rw [e7 vs hm] at h4
    exact h4
  ·have e8 : wipe σ (v :: vs) = wipe σ vs := by
    show (wipe σ vs).set v none = _
    exact List.set_eq_of_length_le (by rw [wipe_length]; omega)
   rw [e8] at h
   have h4 := ih (fun u hu => pl u (by simp [hu])) h
   have e9 : putBack ρ0 ρ (v :: vs) = putBack ρ0 ρ vs := by
    show (putBack ρ0 ρ vs).set v _ = _
    exact List.set_eq_of_length_le (by rw [h4.len]; omega)
   rw [e9]
   exact h4
end
def mYes : ME -> MB := fun ρ => .ok (true, ρ)
def lcLoop (t : MT) (tt : ME -> MB) (me : ME -> MR) (vs : List Nat) : List D -> List D -> ME -> Res (List D × ME)
 | [], acc, ρ => .ok (acc, ρ)
 | d :: ds, acc, ρ => match t d ρ with
  | none => .stuck
  | some ρ1 => match tt ρ1 with
   | .ok (true, ρ2) => match me ρ2 with
    | .ok (.v e, ρ3) => lcLoop t tt me vs ds (acc ++ [e]) (wipeM ρ3 vs)
    | .ok (.own e, ρ3) => lcLoop t tt me vs ds (acc ++ [e]) (wipeM ρ3 vs)
    | _ => .stuck
   | .ok (false, ρ2) => lcLoop t tt me vs ds acc (wipeM ρ2 vs)
   | _ => .stuck
def lcTail (t : MT) (tt : ME -> MB) (me : ME -> MR) (vs : List Nat) : List D × ME -> MR := fun p =>
 if vs.all (plain p.2) && decide (p.1.length < 1000000) then match lcLoop t tt me vs p.1 [] (wipeM p.2 vs) with
  | .ok (acc, ρ1) => .ok (.own (.lst acc), putBack p.2 ρ1 vs)
  | _ => .stuck
 else .stuck
def mLc (mi : ME -> MI) (t : MT) (tt : ME -> MB) (me : ME -> MR) (vs : List Nat) : ME -> MR := fun ρ => bnd (mi ρ) fun p =>
 if vs.all (plain p.2) && decide (p.1.length < 1000000) then match lcLoop t tt me vs p.1 [] (wipeM p.2 vs) with
  | .ok (acc, ρ1) => .ok (.own (.lst acc), putBack p.2 ρ1 vs)
  | _ => .stuck
 else .stuck
abbrev Wno : WX := fun _ _ _ _ => False
section
variable {G : Gd} {W : WX} {B : BxA} {Fr S : Hp} {ρ : ME} {σ : SV} {H : Hp}
theorem itV {mi : ME -> MI} {Q : VK} {f : List D × ME -> MR} {R : It -> Hp -> Prop} (h : Ok G B Fr S ρ σ H) (hc : Cont G W B Fr S σ Q (bnd (mi ρ) f))
    (k : ∀ ds ρ1 J S1 H1, Ext Fr S S1 -> Ok G B Fr S1 ρ1 σ H1 -> WalkD G Fr S1 J ds -> Cont G W B Fr S1 σ Q (f (ds, ρ1)) -> R J H1) : tI G W mi σ H R := by
  refine ⟨B, Fr, S, ρ, h, ?_⟩
  cases e : mi ρ with
  | ok p =>
    obtain ⟨ds, ρ1⟩ := p
    intro J S1 H1 e1 o w
    rw [e] at hc
    exact k ds ρ1 J S1 H1 e1 o w (Cont.mono hc e1)
  | err c ρ1 => rw [e] at hc; exact hc
  | stuck => rw [e] at hc; exact hc
theorem Reps.snoc {G : Gd} {S : Hp} {xs : List V} {ds : List D} {x : V} {d : D} (r : Reps G S xs ds) (q : Rep G S x d) : Reps G S (xs ++ [x]) (ds ++ [d]) := r.append (Reps.cons q Reps.nil)
theorem lc_coreM {t : MT} {is : List Nat} {tt : ME -> MB} {me : ME -> MR} {vs : List Nat} (his : is.all (fun i => vs.contains i) = true) {Q : VK} {ds : List D} {ρ1 : ME} {J : It} {S1 H1 : Hp} (o1 : Ok G B Fr S1 ρ1 σ H1) (w : WalkD G Fr S1 J ds)
    (c1 : Cont G W B Fr S1 σ Q (lcTail t tt me vs (ds, ρ1))) : tLc (fun _ H R => R J H) (gM G is t) (tT G Wno tt) (tM G Wno me) vs σ H1 Q := by
  intro D hD
  unfold lcTail at c1
  dsimp only at c1
  split at c1
  next hpl =>
    rw [Bool.and_eq_true, decide_eq_true_eq] at hpl
    obtain ⟨hpl, hlen⟩ := hpl
    have hzl : sizeLine = 16777216 := sizeLine_eq
    obtain ⟨fD, sD⟩ := o1.free hD
    cases ql : lcLoop t tt me vs ds [] (wipeM ρ1 vs) with
    | err c ρ' => rw [ql] at c1; exact c1.elim
    | stuck => rw [ql] at c1; exact c1.elim
    | ok pr =>
      obtain ⟨accF, ρF⟩ := pr
      rw [ql] at c1
      dsimp only at c1
      have frLe : ∀ {o' : HO}, FrLe Fr (upd Fr D o') := fun {o'} b ob hb => by
        have nb : b ≠ D := fun z => by rw [z, fD] at hb; cases hb
        rw [upd_ne nb]; exact hb
      -- the invariant
      let Inv1 : Nat -> Hp -> Prop := fun i H' => ∃ S2 ρ2 acc accV, Ext Fr S1 S2 /\ Ok G B (upd Fr D (.lst accV)) S2 ρ2 (wipe σ vs) H' /\ S2 D = none /\ Reps G S2 accV acc /\ acc.length ≤ i /\ lcLoop t tt me vs (ds.drop i) acc ρ2 = .ok (accF, ρF)
      refine ⟨fun i m H' => m = ds.length - i /\ i ≤ ds.length /\ Inv1 i H', ⟨ds.length, rfl, Nat.zero_le _, S1, wipeM ρ1 vs, [], [], Ext.refl, (o1.wipes vs).lay hD, sD, Reps.nil, Nat.le_refl _, ql⟩, ?_⟩
      rintro i m H2 ⟨rfl, hi, S2, ρ2, acc, accV, e2, o2, s2, r2, l2, q2⟩
      by_cases hlt : i < ds.length
      · refine .inr ⟨w.goes i _ _ _ _ _ _ hlt frLe e2.same o2, Inv1 (i + 1), fun H' n' => ⟨ds.length - (i + 1), by omega, rfl, hlt, n'⟩, fun x H' y => ?_⟩
        obtain ⟨S3, d, e3, o3, hd, r3⟩ := w.yields i _ _ _ _ _ _ _ _ hlt frLe e2.same o2 y
        have hdr : ds.drop i = d :: ds.drop (i + 1) := by
          rw [List.drop_eq_getElem_cons hlt]
          have z : ds[i] = d := by rw [List.getElem?_eq_getElem hlt] at hd; exact Option.some.inj hd
          rw [z]
        rw [hdr] at q2
        unfold lcLoop at q2
        have frD : ∀ {T : Hp} (b : Addr) (o : HO), T b = none -> Fr b = some o -> NT o -> ∃ o', upd Fr D (.lst accV) b = some o' /\ NT o' := fun {T} b o _ hb n => by
          have nb : b ≠ D := fun z => by rw [z, fD] at hb; cases hb
          exact ⟨o, by rw [upd_ne nb]; exact hb, n⟩
        have hFD : upd Fr D (.lst accV) D = some (.lst accV) := upd_same
        cases z : t d ρ2 with
        | none => rw [z] at q2; cases q2
        | some ρ3 =>
          rw [z] at q2
          dsimp only at q2
          refine ⟨B, _, S3, ρ2, d, ρ3, o3, r3, z, fun σ3 o4 hl4 ha4 => ?_⟩
          have hw : wipe σ3 vs = wipe σ vs := by
            have z1 : wipe σ3 vs = wipe (wipe σ vs) vs := wipe_in hl4 fun j hj => ha4 j fun hm => hj (by
              have := List.all_eq_true.mp his j hm
              simpa using this)
            rw [z1]
            exact wipe_in (wipe_length σ vs) fun j hj => L2.wipe_out hj
          refine ⟨hw, B, _, S3, ρ3, o4, ?_⟩
          cases z2 : tt ρ3 with
          | err c ρ4 => rw [z2] at q2; cases q2
          | stuck => rw [z2] at q2; cases q2
          | ok pb =>
            obtain ⟨b, ρ4⟩ := pb
            rw [z2] at q2
            intro S4 H4 e4 o5
            have s3 : S3 D = none := e3.fresh D _ s2 hFD trivial
            have s4 : S4 D = none := e4.fresh D _ s3 hFD trivial
            have e24 : Ext Fr S1 S4 := e2.trans ((e3.trans e4).anti frD)
            cases b with
            | false =>
              dsimp only at q2
              simp only [Bool.false_eq_true, if_false]
              refine ⟨S4, wipeM ρ4 vs, acc, accV, e24, ?_, s4, r2.mono (Same.trans' e3.same e4.same), by omega, q2⟩
              have := o5.wipes vs
              rw [hw] at this
              exact this
            | true =>
              dsimp only at q2
              simp only [if_true]
              have fin : ∀ (e : Mp.D) (ρ5 : ME) (y : V) (S5 : Hp) (H5 : Hp), Ext (upd Fr D (.lst accV)) S4 S5 -> Ok G B (upd Fr D (.lst accV)) S5 ρ5 σ3 H5 -> Rep G S5 y e -> lcLoop t tt me vs (ds.drop (i + 1)) (acc ++ [e]) (wipeM ρ5 vs) = .ok (accF, ρF) ->
                  ∃ acc', H5 D = some (.lst acc') /\ acc'.length < sizeLine /\ Inv1 (i + 1) (upd H5 D (.lst (acc' ++ [y]))) := by
                intro e ρ5 y S5 H5 e5 o6 r6 q6
                have s5 : S5 D = none := e5.fresh D _ s4 hFD trivial
                refine ⟨accV, o6.fr D _ hFD, by rw [r2.length]; omega, S5, wipeM ρ5 vs, acc ++ [e], accV ++ [y], e24.trans (e5.anti frD), ?_, s5, (r2.mono (Same.trans' e3.same (Same.trans' e4.same e5.same))).snoc r6, by rw [List.length_append]; simp; omega, q6⟩
                have o7 := (o6.bump (o' := .lst (accV ++ [y])) hFD s5).wipes vs
                rw [hw] at o7
                have eqF : upd (upd Fr D (.lst accV)) D (.lst (accV ++ [y])) = upd Fr D (.lst (accV ++ [y])) := by
                  funext b
                  by_cases hb : b = D
                  · subst hb; rw [upd_same, upd_same]
                  · rw [upd_ne hb, upd_ne hb, upd_ne hb]
                rw [eqF] at o7
                exact o7
              refine ⟨B, _, S4, ρ4, o5, ?_⟩
              cases z3 : me ρ4 with
              | err c ρ5 => rw [z3] at q2; cases q2
              | stuck => rw [z3] at q2; cases q2
              | ok ps =>
                obtain ⟨s, ρ5⟩ := ps
                rw [z3] at q2
                intro y S5 H5 e5 o6
                cases s with
                | no => cases q2
                | pt _ => cases q2
                | bor _ _ => cases q2
                | hp _ => cases q2
                | box e => cases q2
                | v e =>
                  obtain ⟨y', q5, r5⟩ := o6.vs 0 e rfl
                  have q5' : y = y' := by simpa using q5
                  subst q5'
                  exact fin e ρ5 y S5 H5 e5 o6.tail r5 q2
                | own e =>
                  obtain ⟨y', S6, q5, e6, o7, r5⟩ := o6.freezeTop
                  cases q5
                  exact fin e ρ5 y S6 H5 (e5.trans e6) o7 r5 q2
      · have hz : i = ds.length := by omega
        subst hz
        rw [List.drop_length] at q2
        refine .inl ⟨w.stops _ _ _ _ _ _ frLe e2.same o2, ?_⟩
        unfold lcLoop at q2
        cases q2
        -- the list is one's own now
        have frL : ∀ b o, Fr b = some o -> upd Fr D (.lst accV) b = some o := fun b o hb => by
          have nb : b ≠ D := fun z => by rw [z, fD] at hb; cases hb
          rw [upd_ne nb]; exact hb
        have hFD : upd Fr D (.lst accV) D = some (.lst accV) := upd_same
        exact c1 (.ref D) S2 H2 e2 ((Ok.backs o1 e2.same (fun v hv => List.all_eq_true.mp hpl v hv) o2).takeFr frL (fun b ob od sb z => by
          have nb : b ≠ D := fun y => by rw [y, upd_same] at z; cases z
          rw [upd_ne nb] at z; exact z) hFD (show RepO G S2 (.lst accV) (.lst _) from ⟨accV, rfl, r2⟩) s2 fD)
  next => exact c1.elim
theorem sem_lc {mi : ME -> MI} {t : MT} {is : List Nat} {tt : ME -> MB} {me : ME -> MR} {vs : List Nat} (his : is.all (fun i => vs.contains i) = true) {Q : VK} (h : tM G W (mLc mi t tt me vs) σ H Q) :
    tLc (tI G W mi) (gM G is t) (tT G Wno tt) (tM G Wno me) vs σ H Q := by
  obtain ⟨B, Fr, S, ρ, o, q⟩ := h
  exact itV o q fun ds ρ1 J S1 H1 e1 o1 w c1 => lc_coreM his o1 w c1
end
theorem mts_nil {X : Cx} : PTs X [] (tT (gOf X) Wno mYes) := ⟨fun pins s σ H Q I h => pts_nil.run pins s σ H Q I (by
 obtain ⟨B, Fr, S, ρ, o, q⟩ := h
 exact q S H Ext.refl o)⟩
section
variable {X : Cx} {W : WX} {elt tg iter : Expr} {ifs : List Expr} {scope : Scope} {own : List (Str × Nat)} {pos : Pos} {mi : ME -> MI} {t : MT} {is : List Nat} {tt : ME -> MB} {me : ME -> MR}
theorem me_lc (hc : X.calm = true) (hN : X.N.Nodup) (hi : PI X tg iter (tI (gOf X) W mi)) (ok : BlkOk X.N X.env.scope scope own)
    (hg : ∀ (s : Shared) (H : Hp) (C : Addr) (cl : List (Str × Addr)) (fp : List Addr), PG (X.blk s H scope (compEnvC scope cl C X.env) fp) tg (gM (gOf X) is t)) (ht : ∀ (s : Shared) (H : Hp) (C : Addr) (cl : List (Str × Addr)) (fp : List Addr), PTs (X.blk s H scope (compEnvC scope cl C X.env) fp) ifs (tT (gOf X) Wno tt))
    (he : ∀ (s : Shared) (H : Hp) (C : Addr) (cl : List (Str × Addr)) (fp : List Addr), PE (X.blk s H scope (compEnvC scope cl C X.env) fp) elt (tM (gOf X) Wno me)) (his : is.all (fun i => (own.map (·.2)).contains i) = true := by decide) (hs : ∀ x, foldedSetIterable iter X.env x = pure x := by intro _; rfl) :
    PE X (.ListComp elt [⟨tg, iter, ifs, 0⟩] scope pos) (tM (gOf X) W (mLc mi t tt me (own.map (·.2)))) := PE.imp (pe_lc hc hN hi ok hg ht he hs) fun σ H Q h => sem_lc his h
theorem st_setLc {i : Nat} {y : Str} {py spos : Pos} (hc : X.calm = true) (hN : X.N.Nodup) (hy : X.N[i]? = some y) (hyl : X.env.scope.names.lookup y = some .local)
    (hsw : swapsWith (.ListComp elt [⟨tg, iter, ifs, 0⟩] scope pos) (some (.Name y py)) spos.line X.env = pure true) (hi : PI X tg iter (tI (gOf X) W mi)) (ok : BlkOk X.N X.env.scope scope own)
    (hg : ∀ (s : Shared) (H : Hp) (C : Addr) (cl : List (Str × Addr)) (fp : List Addr), PG (X.blk s H scope (compEnvC scope cl C X.env) fp) tg (gM (gOf X) is t)) (ht : ∀ (s : Shared) (H : Hp) (C : Addr) (cl : List (Str × Addr)) (fp : List Addr), PTs (X.blk s H scope (compEnvC scope cl C X.env) fp) ifs (tT (gOf X) Wno tt))
    (he : ∀ (s : Shared) (H : Hp) (C : Addr) (cl : List (Str × Addr)) (fp : List Addr), PE (X.blk s H scope (compEnvC scope cl C X.env) fp) elt (tM (gOf X) Wno me)) (his : is.all (fun i => (own.map (·.2)).contains i) = true := by decide) (hs : ∀ x, foldedSetIterable iter X.env x = pure x := by intro _; rfl) :
    PS X (.Assign [.Name y py] (.ListComp elt [⟨tg, iter, ifs, 0⟩] scope pos) spos) (sM (gOf X) W (mSet i (mLc mi t tt me (own.map (·.2))))) := PS.imp (ps_setLc hc hN hy hyl hsw hi ok hg ht he hs) fun En σ H h => sem_lc his (set_walk h)
end
def heldAt (ρ : ME) (k : Nat) : Option D := match ρ[k]? with
 | some (.own d) => some d
 | some (.box d) => some d
 | some (.bor _ d) => some d
 | _ => none
def putAt (ρ : ME) (k : Nat) (d : D) : ME := match ρ[k]? with
 | some (.own _) => ρ.set k (.own d)
 | some (.box _) => ρ.set k (.box d)
 | some (.bor j _) => ρ.set k (.bor j d)
 | _ => ρ
section
variable {G : Gd} {W : WX} {B : BxA} {Fr S : Hp} {ρ : ME} {σ : SV} {H : Hp}
theorem Ok.held {k : Nat} {d : D} (h : Ok G B Fr S ρ σ H) (e : heldAt ρ k = some d) : ∃ a o, σ[k]? = some (some (.ref a)) /\ H a = some o /\ RepO G S o d := by
 unfold heldAt at e
 cases q : ρ[k]? with
 | none => rw [q] at e; cases e
 | some s =>
  rw [q] at e
  cases s with
  | no => cases e
  | v d' => cases e
  | own d' => cases e; obtain ⟨a, o, e1, e2, r, _⟩ := h.ow k _ d q rfl; exact ⟨a, o, e1, e2, r⟩
  | box d' => cases e; obtain ⟨a, o, e1, e2, r, _⟩ := h.ow k _ d q rfl; exact ⟨a, o, e1, e2, r⟩
  | bor j d' => cases e; obtain ⟨a, o, e1, e2, r, _⟩ := h.ow k _ d q rfl; exact ⟨a, o, e1, e2, r⟩
  | pt _ => cases e
  | hp _ => cases e
theorem Ok.put {k : Nat} {d e : D} {a : Addr} {o : HO} (h : Ok G B Fr S ρ σ H) (hk : heldAt ρ k = some d) (ea : σ[k]? = some (some (.ref a))) (r : RepO G S o e) : Ok G B Fr S (putAt ρ k e) σ (upd H a o) := by
 unfold heldAt at hk
 unfold putAt
 cases q : ρ[k]? with
 | none => rw [q] at hk; cases hk
 | some s =>
  rw [q] at hk
  cases s with
  | no => cases hk
  | v d' => cases hk
  | own d' => cases hk; exact h.write q rfl ea r _ (.inl ⟨rfl, rfl⟩)
  | box d' => cases hk; exact h.write q rfl ea r _ (.inr (.inl ⟨rfl, rfl⟩))
  | bor j d' => cases hk; exact h.write q rfl ea r _ (.inr (.inr ⟨j, rfl, rfl⟩))
  | pt _ => cases hk
  | hp _ => cases hk
theorem Reps.set {vs : List V} {ds : List D} {v : V} {d : D} (r : Reps G S vs ds) (q : Rep G S v d) (i : Nat) : Reps G S (vs.set i v) (ds.set i d) := by
 induction ds generalizing vs i with
 | nil => simp only [Reps] at r; subst r; exact Reps.nil
 | cons e ds ih =>
  simp only [Reps] at r
  obtain ⟨w, vr, rfl, hw, r⟩ := r
  cases i with
  | zero => exact Reps.cons q r
  | succ i => exact Reps.cons hw (ih r i)
end
def setD : D -> D -> D -> Option D
 | .lst ds, .int k, e => (ixN ds.length k).map fun j => .lst (ds.set j e)
 | _, _, _ => none
def mSub (k : Nat) (mi me : ME -> MR) : ME -> MS := fun ρ => frzS (me ρ) fun e ρ1 => match heldAt ρ1 k with
 | none => .stuck
 | some _ => frzS (mi ρ1) fun i ρ2 => match (heldAt ρ2 k).bind fun d => setD d i e with
  | some d' => .ok (.nx (putAt ρ2 k d'))
  | none => .stuck
section
variable {G : Gd} {W : WX} {B : BxA} {Fr S : Hp} {ρ : ME} {σ : SV} {H : Hp}
theorem setD_walk {d i e d' : D} {a : Addr} {o : HO} {y z : V} {k : Nat} {P : Hp -> Prop} (h : Ok G B Fr S ρ σ H) (hk : heldAt ρ k = some d) (ea : σ[k]? = some (some (.ref a))) (eo : H a = some o) (r : RepO G S o d) (ri : Rep G S y i) (re : Rep G S z e) (hs : setD d i e = some d')
    (hP : ∀ H', Ok G B Fr S (putAt ρ k d') σ H' -> P H') : rSetL (.ref a) y z H P := by
  cases d with
  | lst ds =>
    cases i with
    | int n =>
      obtain ⟨vs, rfl, rr⟩ := r
      simp only [Rep] at ri
      subst ri
      simp only [setD, Option.map_eq_some_iff] at hs
      obtain ⟨j, hj, rfl⟩ := hs
      exact ⟨a, vs, n, j, rfl, rfl, eo, by rw [rr.length]; exact hj, hP _ (h.put hk ea ⟨_, rfl, rr.set re j⟩)⟩
    | _ => cases hs
  | _ => cases i <;> cases hs
end
section
variable {X : Cx} {W : WX} {pos tpos op : Pos} {i e : Expr} {mi me : ME -> MR} {x : Str}
theorem st_sub (k : Nat) (hi : PE X i (tM (gOf X) W mi)) (he : PE X e (tM (gOf X) W me)) (hN : X.N[k]? = some x := by rfl) (hv : Vis X.env.scope x := by first | exact Or.inl rfl | exact Or.inr (Or.inl rfl) | exact Or.inr (Or.inr rfl)) (hd : (x == ("__debug__" : Str)) = false := by decide) (hcd : (x == ("__classdict__" : Str)) = false := by decide)
    (ha : ∀ v, assign (.Subscript (.Name x op) i tpos) X.env v = (do
      let ov <- holding [v] (eval (.Name x op) X.env)
      let iv <- holding [v, ov] (eval i X.env)
      standAt tpos
      holding [v, ov, iv] (setItem ov iv v)
      release [v, ov, iv] []) := by intro _; rfl)
    (hs : swapsWithSole [.Subscript (.Name x op) i tpos] e pos.line X.env = pure false := by rfl) (hw : swappedStores [.Subscript (.Name x op) i tpos] e X.env = pure none := by rfl)
    (h1 : (assignEach [.Subscript (.Name x op) i tpos] X.env).map (·.2) = [assign (.Subscript (.Name x op) i tpos) X.env] := by rfl) :
    PS X (.Assign [.Subscript (.Name x op) i tpos] e pos) (sM (gOf X) W (mSub k mi me)) :=
  PS.imp (ps_asg he (pg_sub (pe_var hN hv hd hcd) hi set_list ha) hs hw h1) fun En σ H h => by
    obtain ⟨B, Fr, S, ρ, o, q⟩ := h
    refine opndS o q fun d ρ1 z S1 H1 e1 o1 r1 c1 => ?_
    cases q1 : heldAt ρ1 k with
    | none => rw [q1] at c1; exact c1.elim
    | some d0 =>
      rw [q1] at c1
      obtain ⟨a, ho, ea, eo, ro⟩ := o1.held q1
      refine ⟨.ref a, ea, opndS o1 c1 fun di ρ2 y S2 H2 e2 o2 r2 c2 => ?_⟩
      cases q2 : heldAt ρ2 k with
      | none => rw [q2] at c2; exact c2.elim
      | some d2 =>
        rw [q2] at c2
        obtain ⟨a2, ho2, ea2, eo2, ro2⟩ := o2.held q2
        rw [ea] at ea2
        cases ea2
        have c3 : ContS (gOf X) W B Fr S2 En (match setD d2 di d with | some d' => .ok (.nx (putAt ρ2 k d')) | none => .stuck) := c2
        cases q3 : setD d2 di d with
        | none => rw [q3] at c3; exact c3.elim
        | some d' =>
          rw [q3] at c3
          exact setD_walk o2 q2 ea eo2 ro2 r2 (r1.mono e2.same) q3 fun H' o' => c3 σ S2 H' Ext.refl o'
end
def mApp (k : Nat) (me : ME -> MR) : ME -> MR := fun ρ => match heldAt ρ k with
 | some (.lst _) => frz (me ρ) fun e ρ1 => match heldAt ρ1 k with
  | some (.lst ds) => if ds.length < 1000000 then .ok (.v .non, putAt ρ1 k (.lst (ds ++ [e]))) else .stuck
  | _ => .stuck
 | _ => .stuck
theorem Reps.dropLast {G : Gd} {S : Hp} {vs : List V} {ds : List D} (r : Reps G S vs ds) : Reps G S vs.dropLast ds.dropLast := by
 have h := r.take (ds.length - 1)
 rw [List.dropLast_eq_take, List.dropLast_eq_take, r.length]
 exact h
section
variable {X : Cx} {W : WX} {apos cpos p : Pos} {e : Expr} {me : ME -> MR} {x : Str}
theorem me_app (k : Nat) (he : PE X e (tM (gOf X) W me)) (hN : X.N[k]? = some x := by rfl) (hv : Vis X.env.scope x := by first | exact Or.inl rfl | exact Or.inr (Or.inl rfl) | exact Or.inr (Or.inr rfl)) (hd : (x == ("__debug__" : Str)) = false := by decide) (hcd : (x == ("__classdict__" : Str)) = false := by decide)
    (hst : starEach [e] X.env = (false, eval e X.env) :: starEach [] X.env := by rfl)
    (hbase : attributeBase (.Name x p) "append" X.env (eval (.Name x p) X.env) = eval (.Name x p) X.env := by rfl)
    (hfew : ((backTo cpos (starEach [e] X.env)).all (fun x => !x.1) && (backToKw cpos (keywordEach [] X.env)).all (fun x => x.1.isSome)
      && decide ([e].length + ([] : List Keyword).length + (if ([] : List Keyword).isEmpty then 0 else 1) < 30)) = true := by rfl)
    (hline : (apos.endLine == cpos.line) = true := by rfl) : PE X (.Call (.Attribute (.Name x p) "append" apos) [e] [] cpos) (tM (gOf X) W (mApp k me)) :=
  PE.imp (pe_bm PySem.F.plainAttrs_list PySem.F.slot_list_append PySem.F.type_list_append mt_append (pe_var hN hv hd hcd) (pa_cons he pa_nil hst) hbase hfew hline hst) fun σ H Q h => by
    obtain ⟨B, Fr, S, ρ, o, q⟩ := h
    unfold mApp at q
    split at q
    · rename_i d0 q1
      obtain ⟨a, ho, ea, eo, ro⟩ := o.held q1
      obtain ⟨vs, rfl, rr⟩ := ro
      refine ⟨.ref a, ea, .inl ⟨rfl, vs, SqL.of eo⟩, opnd o q fun d ρ1 y S1 H1 e1 o1 r1 c1 => ?_⟩
      split at c1
      · rename_i ds q2
        obtain ⟨a2, ho2, ea2, eo2, ro2⟩ := o1.held q2
        rw [ea] at ea2
        cases ea2
        obtain ⟨vs2, rfl, rr2⟩ := ro2
        split at c1
        · rename_i hl
          have hz : sizeLine = 16777216 := sizeLine_eq
          exact ⟨a, vs2, y, rfl, rfl, eo2, by rw [rr2.length]; omega, c1 _ S1 _ Ext.refl ((o1.put (e := .lst (ds ++ [d])) q2 ea ⟨_, rfl, rr2.snoc r1⟩).push (by simp only [Rep]))⟩
        · exact c1.elim
      · exact c1.elim
    · exact q.elim
end
def tyD : D -> Option String
 | .non => some "NoneType"
 | .bl _ => some "bool"
 | .int _ => some "int"
 | .str _ => some "str"
 | .lst _ => some "list"
 | .tup _ => some "tuple"
 | .ktp _ => some "tuple"
 | _ => none
def gIsi (T : String) (d : D) : Option Slot := (tyD d).bind fun a => (L2.kitB a T).map fun b => .v (.bl b)
theorem Ok.tyX {G : Gd} {B : BxA} {Fr S : Hp} {ρ : ME} {σ : SV} {H : Hp} {x : V} {d : D} {a : String} (o : Ok G B Fr S ρ σ H) (r : Rep G S x d) (h : tyD d = some a) : L2.TyX G.K H x (.type a) := by
 cases d with
 | non => cases h; simp only [Rep] at r; subst r; exact .base .non
 | bl b => cases h; simp only [Rep] at r; subst r; exact .base (.bl b)
 | int i => cases h; simp only [Rep] at r; subst r; exact .base (.int i)
 | str i => cases h; simp only [Rep] at r; subst r; exact .base (.str i)
 | lst ds => cases h; simp only [Rep] at r; obtain ⟨p, vs, rfl, hs, _⟩ := r; exact .base (.lst (o.lstAt hs))
 | tup ds => cases h; simp only [Rep] at r; obtain ⟨p, vs, rfl, hs, _⟩ := r; exact .base (.tup (o.tupAt hs))
 | ktp ds =>
  cases h
  simp only [Rep] at r
  obtain ⟨p, vs, rfl, hs, _⟩ := r
  rcases hs with (e | ⟨_, e⟩) | ⟨ob, its, n, h1, h2, _⟩
  ·cases e
  ·cases e
  ·exact .kTuple h1 h2
 | _ => cases h
section
variable {X : Cx} {W : WX} {a : Expr} {ma : ME -> MR} {p p2 pos : Pos} {y : Str} {T : String}
theorem me_isi (hg : Gl X "isinstance") (hm : X.mg "isinstance" = none) (hg2 : Gl X y) (hm2 : X.mg y = none) (ha : PE X a (tM (gOf X) W ma)) (hv2 : bootBuiltins y = some (.type T)) (hn2 : y ≠ "__name__" := by decide) (hd2 : (y == ("__debug__" : Str)) = false := by decide)
    (hv : bootBuiltins "isinstance" = some (.builtin "isinstance") := by first | exact boot_isinstance | decide +kernel)
    (h1 : starEach [a, .Name y p2] X.env = (false, eval a X.env) :: starEach [.Name y p2] X.env := by rfl) (h2 : starEach [.Name y p2] X.env = (false, eval (.Name y p2) X.env) :: starEach [] X.env := by rfl)
    (hpl : (backTo pos (starEach [.Name y p2] X.env)).any (·.1) = false := by rfl) :
    PE X (.Call (.Name "isinstance" p) [a, .Name y p2] [] pos) (tM (gOf X) W (mCall1 (gIsi T) ma)) :=
  PE.imp (pe_callB call_isi hg hm hv (pa_cons ha (pa_cons (pe_bltn (v := .ty T) hg2 hm2 hv2 rfl hn2 hd2) pa_nil h2) h1) (by decide) (by decide) h1 hpl) fun σ H Q h => by
    obtain ⟨B, Fr, S, ρ, o, q⟩ := h
    refine opnd o q fun d ρ1 x S1 H1 e1 o1 r1 c1 => ?_
    cases q1 : gIsi T d with
    | none => rw [q1] at c1; exact c1.elim
    | some s =>
      rw [q1] at c1
      unfold gIsi at q1
      cases q2 : tyD d with
      | none => rw [q2] at q1; cases q1
      | some t =>
        rw [q2] at q1
        simp only [Option.bind_some, Option.map_eq_some_iff] at q1
        obtain ⟨b, hb, rfl⟩ := q1
        exact ⟨x, .ty T, .type t, .type T, b, rfl, .ty T, o1.tyX r1 q2, L2.kit_ty hb, c1 _ S1 H1 Ext.refl (o1.push (by simp only [Rep]))⟩
end
abbrev MF := List Slot -> MR
def fnM (n : Nat) (m : ME -> MS) : MF := fun args => match m (args ++ List.replicate n .no) with
 | .ok (.rt s ρ) => .ok (s, ρ)
 | .ok (.nx ρ) => .ok (.v .non, ρ)
 | .err c ρ => .err c ρ
 | _ => .stuck
section
variable (G : Gd)
def ContF (B : BxA) (Fr S : Hp) (Q : VK) (E : XK) : MR -> Prop
 | .ok (s, ρ) => ∀ (σ : SV) x S' H', Ext Fr S S' -> Ok G B Fr S' (s :: ρ) (some x :: σ) H' -> Q x H'
 | .err c ρ => ∀ (σ : SV) S' H', Ext Fr S S' -> Ok G B Fr S' ρ σ H' -> ∀ C, G.mg c.nm = some (.ref C) -> ∀ dd, ErrD G S' H' c dd -> E (.ref C) dd H'
 | .stuck => False
def spM (k : Nat) (f : MF) : Sp := fun vs H Q E => ∃ B Fr S args, args.length = k /\ Ok G B Fr S args (vs.map some) H /\ ContF G B Fr S Q E (f args)
end
def DefOk (P : Program) (w : World) (K : PySem.W.Frag) (mg : Str -> Option Value) (base : Heap) (x : Str) (n k : Nat) (f : MF) : Prop :=
 ∃ (a : Addr) (fd : FuncData) (ps : List Str), mg x = some (.ref a) /\ PySem.W.keepIn K (.ref a) = true /\ Binds K fd ps [] /\ ps.length = k /\ FnOk P w K mg base (L2.CX P w) n a fd ps (spM ⟨P, w, K, mg, none⟩ k f)
section
variable {P : Program} {w : World} {K : PySem.W.Frag} {mg : Str -> Option Value} {base : Heap} {x : Str} {n m k : Nat} {f : MF}
theorem DefOk.mono (h : DefOk P w K mg base x n k f) (l : n ≤ m) : DefOk P w K mg base x m k f := by
 obtain ⟨a, fd, ps, h1, h2, h3, h4, h5⟩ := h
 exact ⟨a, fd, ps, h1, h2, h3, h4, h5.mono l⟩
def DefIs (K : PySem.W.Frag) (mg : Str -> Option Value) (x qual : Str) (params : Arguments) (body : List Stmt) (scope : Scope) : Prop := ∃ a fd, mg x = some (.ref a) /\ FunD K x qual params body scope [] [] a fd
variable {qual : Str} {params : Arguments} {body : List Stmt} {scope : Scope} {N ps : List Str} {mm : ME -> MS}
theorem def_fn {a : Addr} {fd : FuncData} {dvs : List V} {kws : List (Str × V)} (F : FunD K x qual params body scope dvs kws a fd) (S : FnScope N ps scope)
    (h : ∀ (cdv : Value) (A : Around) (outer : List Env) (s : Shared) (H : Hp) (E : XK), Room n (A.deeper (envOfC qual scope s.heap.objs.size a cdv)) ->
      PSs (cxOf (L2.CX P w) P w K mg base N qual scope a cdv A outer s H E) body (sM ⟨P, w, K, mg, none⟩ (fun cls d _ H => E cls d H) mm)) : FnOk P w K mg base (L2.CX P w) (n + 1) a fd ps (spM ⟨P, w, K, mg, none⟩ ps.length (fnM (N.length - ps.length) mm)) := by
  refine F.ok S (fun vs H Q E q => ?_) fun cdv A outer s H vs Q E hr q => ⟨_, h cdv A outer s H E hr, ?_⟩
  · obtain ⟨B, Fr, S, args, hl, o, _⟩ := q
    rw [<- hl, o.len, List.length_map]
  · obtain ⟨B, Fr, S', args, hl, o, c⟩ := q
    have hv : vs.length = ps.length := by rw [<- hl, o.len, List.length_map]
    refine ⟨B, Fr, S', args ++ List.replicate (N.length - ps.length) .no, ?_, ?_⟩
    · unfold L2.start
      rw [hv]
      have key : ∀ (j : Nat) (ρ : ME) (σ : SV), Ok ⟨P, w, K, mg, none⟩ B Fr S' ρ σ H -> Ok ⟨P, w, K, mg, none⟩ B Fr S' (ρ ++ List.replicate j .no) (σ ++ List.replicate j none) H := by
        intro j ρ σ o
        refine ⟨o.fr, o.st, by simp [o.len], fun i d e => ?_, fun i s d e hd => ?_, fun i d e => ?_, fun i i2 s t d e c hij h1 h2 h3 h4 h5 => ?_, o.ce.more o.len j⟩
        · by_cases hi : i < ρ.length
          · rw [List.getElem?_append_left hi] at e
            obtain ⟨x, q1, q2⟩ := o.vs i d e
            exact ⟨x, by rw [List.getElem?_append_left (by rw [<- o.len]; exact hi)]; exact q1, q2⟩
          · rw [List.getElem?_append_right (by omega), List.getElem?_replicate] at e
            split at e <;> cases e
        · by_cases hi : i < ρ.length
          · rw [List.getElem?_append_left hi] at e
            obtain ⟨c, u, q1, q2⟩ := o.ow i s d e hd
            exact ⟨c, u, by rw [List.getElem?_append_left (by rw [<- o.len]; exact hi)]; exact q1, q2⟩
          · rw [List.getElem?_append_right (by omega), List.getElem?_replicate] at e
            split at e <;> cases e
            cases hd
        · by_cases hi : i < ρ.length
          · rw [List.getElem?_append_left hi] at e
            rw [List.getElem?_append_left (by rw [<- o.len]; exact hi)]
            exact o.bx i d e
          · rw [List.getElem?_append_right (by omega), List.getElem?_replicate] at e
            split at e <;> cases e
        · by_cases hi : i < ρ.length
          · by_cases hi2 : i2 < ρ.length
            · rw [List.getElem?_append_left hi] at h1
              rw [List.getElem?_append_left hi2] at h3
              rw [List.getElem?_append_left (by rw [<- o.len]; exact hi)] at h5
              rw [List.getElem?_append_left (by rw [<- o.len]; exact hi2)]
              exact o.inj i i2 s t d e c hij h1 h2 h3 h4 h5
            · rw [List.getElem?_append_right (by omega), List.getElem?_replicate] at h3
              split at h3 <;> cases h3
              cases h4
          · rw [List.getElem?_append_right (by omega), List.getElem?_replicate] at h1
            split at h1 <;> cases h1
            cases h2
      exact key _ _ _ o
    · unfold fnM at c
      cases e : mm (args ++ List.replicate (N.length - ps.length) .no) with
      | ok fl =>
        rw [e] at c
        cases fl with
        | nx ρ => exact fun σ S2 H' e2 o2 => c σ .non S2 H' e2 (o2.push (by simp only [Rep]))
        | rt sl ρ => exact c
        | bk ρ => exact c.elim
        | ct ρ => exact c.elim
      | err cc ρ => rw [e] at c; exact fun σ S2 H' e2 o2 => c σ S2 H' e2 o2
      | stuck => rw [e] at c; exact c.elim
theorem def_ok (D : DefIs K mg x qual params body scope) (S : FnScope N ps scope)
    (hb : ∀ (kV doc pm : Value) (an : Option Addr) (cdv ct : Value) (us : List Value), us.length = ps.length -> bindArgs (PySem.W.fnOf x qual params body scope .none kV doc pm an cdv ct) ⟨us, []⟩ = pure (ps.zip us))
    (h : ∀ (a : Addr) (cdv : Value) (A : Around) (outer : List Env) (s : Shared) (H : Hp) (E : XK), Room n (A.deeper (envOfC qual scope s.heap.objs.size a cdv)) ->
      PSs (cxOf (L2.CX P w) P w K mg base N qual scope a cdv A outer s H E) body (sM ⟨P, w, K, mg, none⟩ (fun cls d _ H => E cls d H) mm)) : DefOk P w K mg base x (n + 1) ps.length (fnM (N.length - ps.length) mm) := by
  obtain ⟨a, fd, hm, F⟩ := D
  exact ⟨a, fd, ps, hm, F.kp, F.bindsN hb, rfl, def_fn F S (h a)⟩
theorem def_none (D : DefIs K mg x qual params body scope)
    (hb : ∀ (kV doc pm : Value) (an : Option Addr) (cdv ct : Value) (us : List Value), us.length = ps.length -> bindArgs (PySem.W.fnOf x qual params body scope .none kV doc pm an cdv ct) ⟨us, []⟩ = pure (ps.zip us)) : DefOk P w K mg base x n ps.length (fun _ => .stuck) := by
  obtain ⟨a, fd, hm, F⟩ := D
  refine ⟨a, fd, ps, hm, F.kp, F.bindsN hb, rfl, ⟨fun vs H Q E q => ?_, fun A outer s H args us vs Q E hr e b v q => ?_⟩⟩
  · obtain ⟨_, _, _, _, _, _, c⟩ := q
    exact c.elim
  · obtain ⟨_, _, _, _, _, _, c⟩ := q
    exact c.elim
end
def mFn (f : MF) (ms : ME -> ML) : ME -> MR := fun ρ => bnd (ms ρ) fun p => match f (p.1.map .v) with
 | .ok (.v d, _) => .ok (.v d, p.2)
 | .ok (.own d, _) => .ok (.own d, p.2)
 | .err c _ => .err c p.2
 | _ => .stuck
def mFnX (f : MF) (k : Nat) (ms : ME -> ML) : ME -> MR := fun ρ => match heldAt ρ k with
 | none => .stuck
 | some _ => bnd (ms ρ) fun p => match heldAt p.2 k with
  | none => .stuck
  | some b => match f (.box b :: p.1.map .v) with
   | .ok (.v d, .box b' :: _) => .ok (.v d, putAt p.2 k b')
   | .ok (.own d, .box b' :: _) => .ok (.own d, putAt p.2 k b')
   | .err c (.box b' :: _) => .err c (putAt p.2 k b')
   | _ => .stuck
section
variable {G : Gd} {W : WX} {B : BxA} {Fr S : Hp} {ρ : ME} {σ : SV} {H : Hp}
theorem args_ok {xs : List V} {ds : List D} (h : Ok G B Fr S ρ σ H) {Fr' : Hp} {B' : BxA} (hF : ∀ b o, Fr' b = some o -> H b = some o) (hL : ∀ b o od, S b = some o -> H b = some (.frz od o) -> Fr' b = some (.frz od o)) (r : Reps G S xs ds) : Ok G B' Fr' S (ds.map .v) (xs.map some) H := by
 refine ⟨hF, fun b u e => (h.st b u e).imp id fun ⟨l, od, z, _⟩ => ⟨l, od, z, hL b u od e z⟩, by simp [r.length], fun i d e => ?_, fun i s d e hd => ?_, fun i d e => ?_, fun i j s t d e a _ h1 h2 _ _ _ => ?_, CeOk.none fun i cs e => ?_⟩
 ·rw [List.getElem?_map, Option.map_eq_some_iff] at e
  obtain ⟨d', e, z⟩ := e
  cases z
  obtain ⟨v, ev, rv⟩ := r.get e
  exact ⟨v, by rw [List.getElem?_map, ev] <;> rfl, rv⟩
 ·rw [List.getElem?_map, Option.map_eq_some_iff] at e
  obtain ⟨d', e, z⟩ := e
  subst z
  cases hd
 ·rw [List.getElem?_map, Option.map_eq_some_iff] at e
  obtain ⟨d', e, z⟩ := e
  cases z
 ·rw [List.getElem?_map, Option.map_eq_some_iff] at h1
  obtain ⟨d', e, z⟩ := h1
  subst z
  cases h2
 ·rw [List.getElem?_map, Option.map_eq_some_iff] at e
  obtain ⟨d', _, z⟩ := e
  cases z
theorem Ok.lockedBack {S2 H2 Fr2 : Hp} (h : Ok G B Fr S ρ σ H) (sm : Same S S2) (fresh : ∀ b o, S b = none -> Fr2 b = some o -> NT o -> S2 b = none) (st : ∀ b o, S2 b = some o -> H2 b = some o \/ (LockO o /\ ∃ od, H2 b = some (.frz od o) /\ Fr2 b = some (.frz od o)))
    (le : ∀ b o, Fr2 b = some o -> H b = some o) : ∀ b o, S2 b = some o -> H2 b = some o \/ (LockO o /\ ∃ od, H2 b = some (.frz od o) /\ Fr b = some (.frz od o)) := fun b o e => by
  rcases st b o e with z | ⟨l, od, z, zf⟩
  · exact .inl z
  · refine .inr ⟨l, od, z, ?_⟩
    cases q : S b with
    | none => rw [fresh b _ q zf trivial] at e; cases e
    | some u =>
      have w := le b _ zf
      rcases h.st b u q with y | ⟨l2, od2, y, yf⟩
      · rw [w] at y
        cases y
        have e3 := e.symm.trans (sm b _ q)
        rw [Option.some.inj e3] at l
        exact l.elim
      · rw [w] at y
        cases y
        exact yf
theorem Ok.back0 {S2 H2 : Hp} {ρ' : ME} {σ' : SV} {B' : BxA} (h : Ok G B Fr S ρ σ H) (e : Ext H S S2) (o : Ok G B' H S2 ρ' σ' H2) : Ok G B Fr S2 ρ σ H2 := by
 refine ⟨fun b u q => o.fr b u (h.fr b u q), h.lockedBack e.same e.fresh o.st fun _ _ z => z, h.len, fun i d q => ?_, fun i s d q hd => ?_, h.bx, h.inj, h.ce.heap e.same (fun _ _ z => z) fun a u q1 q2 q3 q4 _ => ⟨o.fr a u q1, e.fresh a u q2 q1 q4, q3⟩⟩
 ·obtain ⟨x, q1, q2⟩ := h.vs i d q
  exact ⟨x, q1, q2.mono e.same⟩
 ·obtain ⟨a, u, q1, q2, q3, q4, q5⟩ := h.ow i s d q hd
  exact ⟨a, u, q1, o.fr a u q2, q3.mono e.same, e.fresh a u q4 q2 q3.nt, q5⟩
theorem fn_core {f : MF} {k : Nat} {Q : VK} {ds : List D} {ρ1 : ME} {xs : List V} {S1 H1 : Hp} (o1 : Ok G B Fr S1 ρ1 σ H1) (r1 : Reps G S1 xs ds) (l1 : ds.length = k)
    (c1 : Cont G W B Fr S1 σ Q (match f (ds.map .v) with
      | .ok (.v d, _) => .ok (.v d, ρ1)
      | .ok (.own d, _) => .ok (.own d, ρ1)
      | .err c _ => .err c ρ1
      | _ => .stuck)) : spM G k f xs H1 Q (WE W σ) := by
  refine ⟨⟨0, []⟩, H1, S1, ds.map .v, by rw [List.length_map, l1], args_ok o1 (fun _ _ z => z) (fun _ _ _ _ z => z) r1, ?_⟩
  have anti : ∀ b o, S1 b = none -> Fr b = some o -> NT o -> ∃ o', H1 b = some o' /\ NT o' := fun b o _ hb n => ⟨o, o1.fr b o hb, n⟩
  cases q : f (ds.map .v) with
  | ok p =>
    obtain ⟨s, ρ'⟩ := p
    rw [q] at c1
    intro σ' x S' H' e' o'
    have e2 : Ext Fr S1 S' := e'.anti anti
    have o2 : Ok G B Fr S' ρ1 σ H' := o1.back0 e' o'
    cases s with
    | v d =>
      obtain ⟨y, q1, q2⟩ := o'.vs 0 d rfl
      have q3 : x = y := by simpa using q1
      subst q3
      exact c1 x S' H' e2 (o2.push q2)
    | own d =>
      obtain ⟨a, u, q1, q2, q3, q4, q5⟩ := o'.ow 0 _ d rfl rfl
      have q6 : x = .ref a := by simpa using q1
      subst q6
      have hF : Fr a = none := by
        cases z : Fr a with
        | none => rfl
        | some w => rw [o1.fr a w z] at q5; cases q5
      exact c1 (.ref a) S' H' e2 (o2.pushOwn q2 q3 q4 hF (fun i t g h1 h2 z => by
        obtain ⟨b, u2, z1, z2, _⟩ := o1.ow i t g h1 h2
        rw [z] at z1
        cases z1
        rw [q5] at z2
        cases z2) fun i cs ei => by
        obtain ⟨α, c⟩ := o1.ce.ex i cs ei
        exact c.offNew e'.same (fun _ _ z => z) (fun a u q1 q2 q3 q4 _ => ⟨o'.fr a u q1, e'.fresh a u q2 q1 q4, q3⟩) q5)
    | no => exact c1.elim
    | pt _ => exact c1.elim
    | bor _ _ => exact c1.elim
    | hp _ => exact c1.elim
    | box d => exact c1.elim
  | err cc ρ' =>
    rw [q] at c1
    exact fun σ' S' H' e' o' => c1 S' H' (e'.anti anti) (o1.back0 e' o')
  | stuck =>
    rw [q] at c1
    exact c1.elim
theorem fn_walk {f : MF} {ms : ME -> ML} {k : Nat} {Q : VK} (hl : LenIs ms k) (h : tM G W (mFn f ms) σ H Q) : tCallS (spM G k f) (WE W) (tMs G W ms) σ H Q := by
 obtain ⟨B, Fr, S, ρ, o, c⟩ := h
 refine args' hl o c fun ds ρ1 xs S1 H1 e1 o1 r1 l1 c1 => ?_
 exact fn_core o1 r1 l1 c1
def reD (s : Slot) (d : D) : Slot := match s with
 | .own _ => .own d
 | .box _ => .box d
 | .bor j _ => .bor j d
 | t => t
theorem putAt_back {ρ : ME} {k j : Nat} {b : D} {s : Slot} (h : (putAt ρ k b)[j]? = some s) : ∃ s', ρ[j]? = some s' /\ Kin s' s /\ ∀ cs, s = .hp cs -> s' = .hp cs := by
 unfold putAt at h
 cases q : ρ[k]? with
 | none => rw [q] at h; exact ⟨s, h, Kin.refl, fun _ z => z⟩
 | some t =>
  rw [q] at h
  have hk : k < ρ.length := (List.getElem?_eq_some_iff.mp q).1
  have key : ∀ t', (ρ.set k t')[j]? = some s -> Kin t t' -> (∀ cs, t' ≠ .hp cs) -> ∃ s', ρ[j]? = some s' /\ Kin s' s /\ ∀ cs, s = .hp cs -> s' = .hp cs := fun t' e kn n => by
   by_cases hj : k = j
   ·subst hj
    rw [List.getElem?_set_self hk] at e
    cases e
    exact ⟨t, q, kn, fun cs z => absurd z (n cs)⟩
   ·rw [List.getElem?_set_ne hj] at e
    exact ⟨s, e, Kin.refl, fun _ z => z⟩
  cases t with
  | own d => exact key _ h ⟨fun _ => (fun z => nomatch z), fun _ z => (nomatch z), fun _ _ z => (nomatch z)⟩ fun _ z => nomatch z
  | box d => exact key _ h ⟨fun _ => (fun z => nomatch z), fun _ z => (nomatch z), fun _ _ z => (nomatch z)⟩ fun _ z => nomatch z
  | bor i d => exact key _ h ⟨fun _ => (fun z => nomatch z), fun _ z => (nomatch z), fun _ _ z => ⟨d, by cases z; rfl⟩⟩ fun _ z => nomatch z
  | no => exact ⟨s, h, Kin.refl, fun _ z => z⟩
  | v d => exact ⟨s, h, Kin.refl, fun _ z => z⟩
  | pt i => exact ⟨s, h, Kin.refl, fun _ z => z⟩
  | hp cs => exact ⟨s, h, Kin.refl, fun _ z => z⟩
theorem Ok.backX {S2 H2 : Hp} {ρ' : ME} {σ' : SV} {a : Addr} {k : Nat} {b b' : D} {x0 : Option V} (h : Ok G B Fr S ρ σ H) (hk : heldAt ρ k = some b) (ea : σ[k]? = some (some (.ref a))) (e : Ext (fun c => if c = a then none else H c) S S2)
    (o : Ok G ⟨a, []⟩ (fun c => if c = a then none else H c) S2 (.box b' :: ρ') (x0 :: σ') H2) : Ok G B Fr S2 (putAt ρ k b') σ H2 := by
  have hk2 : ∃ s, ρ[k]? = some s /\ s.held = some b /\ ((s = .own b /\ putAt ρ k b' = ρ.set k (.own b')) \/ (s = .box b /\ putAt ρ k b' = ρ.set k (.box b')) \/ ∃ j, s = .bor j b /\ putAt ρ k b' = ρ.set k (.bor j b')) := by
    unfold heldAt at hk
    unfold putAt
    cases q : ρ[k]? with
    | none => rw [q] at hk; cases hk
    | some s =>
      rw [q] at hk
      cases s with
      | no => cases hk
      | v d => cases hk
      | own d => cases hk; exact ⟨_, rfl, rfl, .inl ⟨rfl, rfl⟩⟩
      | box d => cases hk; exact ⟨_, rfl, rfl, .inr (.inl ⟨rfl, rfl⟩)⟩
      | bor j d => cases hk; exact ⟨_, rfl, rfl, .inr (.inr ⟨j, rfl, rfl⟩)⟩
      | pt _ => cases hk
      | hp _ => cases hk
  obtain ⟨s, es, hs, hp⟩ := hk2
  obtain ⟨a0, u0, f1, f2, f3, f4, f5⟩ := h.ow k s b es hs
  rw [ea] at f1
  cases f1
  obtain ⟨a1, u1, g1, g2, g3, g4, g5⟩ := o.ow 0 _ b' rfl rfl
  have gb := o.bx 0 b' rfl
  rw [gb] at g1
  cases g1
  have hkl : k < ρ.length := (List.getElem?_eq_some_iff.mp es).1
  have fne : ∀ {c u}, H c = some u -> c ≠ a -> H2 c = some u := fun {c u} hc hn => o.fr c u (by simp [hn, hc])
  have hpe : ρ.set k (reD s b') = putAt ρ k b' := by
    rcases hp with ⟨rfl, hp⟩ | ⟨rfl, hp⟩ | ⟨j, rfl, hp⟩ <;> (rw [hp]; rfl)
  have cep : CeOk G B Fr S2 (putAt ρ k b') σ H2 := (h.ce.heap e.same (fun _ _ z => z) fun c u q1 q2 q3 q4 q5 => by
      have hn : c ≠ a := fun z => q5 k s b es hs (by rw [ea, z])
      exact ⟨fne q1 hn, e.fresh c u q2 (by simp [hn, q1]) q4, q3⟩).slots id (fun _ _ z => z) (fun j cs z => by
        obtain ⟨s', w1, _, w2⟩ := putAt_back z
        rw [w2 cs rfl] at w1; exact w1) fun _ _ _ j t z _ => by
        obtain ⟨s', w1, w2, _⟩ := putAt_back z
        exact .inl ⟨j, s', w1, rfl, w2⟩
  have base : Ok G B Fr S2 (ρ.set k (reD s b')) σ H2 := by
    refine ⟨fun c u q => ?_, h.lockedBack e.same e.fresh o.st fun c u z => by
      by_cases hn : c = a
      · simp [hn] at z
      · simpa [hn] using z, by rw [List.length_set]; exact h.len, fun i d q => ?_, fun i t d q hd => ?_, fun i d q => ?_, fun i j t t' d e' c hij h1 h2 h3 h4 h5 => ?_, by rw [hpe]; exact cep⟩
    · have hn : c ≠ a := fun z => by rw [z, f5] at q; cases q
      exact fne (h.fr c u q) hn
    · by_cases hi : k = i
      · subst hi
        rw [List.getElem?_set_self hkl] at q
        cases s with
        | no => cases q
        | v z => cases hs
        | own z => cases q
        | box z => cases q
        | bor j z => cases q
        | pt z => cases hs
        | hp z => cases hs
      · rw [List.getElem?_set_ne hi] at q
        obtain ⟨x, q1, q2⟩ := h.vs i d q
        exact ⟨x, q1, q2.mono e.same⟩
    · by_cases hi : k = i
      · subst hi
        rw [List.getElem?_set_self hkl] at q
        have hd' : d = b' := by
          cases s with
          | own z => cases q; cases hd; rfl
          | box z => cases q; cases hd; rfl
          | bor j z => cases q; cases hd; rfl
          | pt z => cases hs
          | hp z => cases hs
          | no => cases hs
          | v z => cases hs
        subst hd'
        exact ⟨a, u1, ea, g2, g3, g4, f5⟩
      · rw [List.getElem?_set_ne hi] at q
        obtain ⟨c, u, q1, q2, q3, q4, q5⟩ := h.ow i t d q hd
        have hn : c ≠ a := fun z => h.inj k i s t b d a hi es hs q hd ea (by rw [q1, z])
        exact ⟨c, u, q1, fne q2 hn, q3.mono e.same, e.fresh c u q4 (by simp [hn, q2]) q3.nt, q5⟩
    · by_cases hi : k = i
      · subst hi
        rw [List.getElem?_set_self hkl] at q
        cases s with
        | box z => exact h.bx k z es
        | bor j z => cases q
        | pt z => cases hs
        | hp z => cases hs
        | own z => cases q
        | no => cases hs
        | v z => cases hs
      · rw [List.getElem?_set_ne hi] at q
        exact h.bx i d q
    · have back : ∀ {j : Nat} {u : Slot} {g : D}, (ρ.set k (reD s b'))[j]? = some u -> u.held = some g -> ∃ u' g', ρ[j]? = some u' /\ u'.held = some g' := fun {j u g} q1 q2 => by
        by_cases hj : k = j
        · subst hj; exact ⟨s, b, es, hs⟩
        · rw [List.getElem?_set_ne hj] at q1; exact ⟨u, g, q1, q2⟩
      obtain ⟨u1', g1', p1, p2⟩ := back h1 h2
      obtain ⟨u2', g2', p3, p4⟩ := back h3 h4
      exact h.inj i j u1' u2' g1' g2' c hij p1 p2 p3 p4 h5
  rw [<- hpe]; exact base
theorem fnX_core {f : MF} {n k : Nat} {Q : VK} {ds : List D} {ρ1 : ME} {xs : List V} {S1 H1 : Hp} {a : Addr} {b : D} (o1 : Ok G B Fr S1 ρ1 σ H1) (r1 : Reps G S1 xs ds) (l1 : ds.length = n) (q1 : heldAt ρ1 k = some b) (ea : σ[k]? = some (some (.ref a)))
    (c1 : Cont G W B Fr S1 σ Q (match f (.box b :: ds.map .v) with
      | .ok (.v d, .box b' :: _) => .ok (.v d, putAt ρ1 k b')
      | .ok (.own d, .box b' :: _) => .ok (.own d, putAt ρ1 k b')
      | .err c (.box b' :: _) => .err c (putAt ρ1 k b')
      | _ => .stuck)) : spM G (n + 1) f (.ref a :: xs) H1 Q (WE W σ) := by
  obtain ⟨a1, ho1, ea1, eo1, ro1⟩ := o1.held q1
  rw [ea] at ea1
  cases ea1
  -- where the box stands nothing is laid down
  have hfree : S1 a = none /\ Fr a = none := by
    unfold heldAt at q1
    cases z : ρ1[k]? with
    | none => rw [z] at q1; cases q1
    | some s =>
      rw [z] at q1
      cases s with
      | no => cases q1
      | v d => cases q1
      | own d => obtain ⟨a2, _, z1, _, _, z2, z3⟩ := o1.ow k _ d z rfl; rw [ea] at z1; cases z1; exact ⟨z2, z3⟩
      | box d => obtain ⟨a2, _, z1, _, _, z2, z3⟩ := o1.ow k _ d z rfl; rw [ea] at z1; cases z1; exact ⟨z2, z3⟩
      | bor j d => obtain ⟨a2, _, z1, _, _, z2, z3⟩ := o1.ow k _ d z rfl; rw [ea] at z1; cases z1; exact ⟨z2, z3⟩
      | pt _ => cases q1
      | hp _ => cases q1
  have anti : ∀ c o, S1 c = none -> Fr c = some o -> NT o -> ∃ o', (fun c => if c = a then none else H1 c) c = some o' /\ NT o' := fun c o _ hb n => by
    have hn : c ≠ a := fun y => by rw [y, hfree.2] at hb; cases hb
    exact ⟨o, by simp only [hn, if_false]; exact o1.fr c o hb, n⟩
  have oa : Ok G ⟨a, []⟩ (fun c => if c = a then none else H1 c) S1 (ds.map .v) (xs.map some) H1 := args_ok o1 (fun c u z => by
    by_cases hn : c = a
    · simp [hn] at z
    · simpa [hn] using z) (fun c u od sc z => by
    have hn : c ≠ a := fun y => by rw [y, hfree.1] at sc; cases sc
    simp only [hn, if_false]; exact z) r1
  have ob : Ok G ⟨a, []⟩ (fun c => if c = a then none else H1 c) S1 (.box b :: ds.map .v) (some (.ref a) :: xs.map some) H1 := by
    refine ⟨oa.fr, oa.st, by simpa using oa.len, fun i d e => ?_, fun i s d e hd => ?_, fun i d e => ?_, fun i j s t d e c hij h1 h2 h3 h4 h5 => ?_, CeOk.none fun i cs e => ?_⟩
    · cases i with
      | zero => simp at e
      | succ i => exact oa.vs i d (by simpa using e)
    · cases i with
      | zero => simp at e; subst e; cases hd; exact ⟨a, ho1, rfl, eo1, ro1, hfree.1, by simp⟩
      | succ i => exact oa.ow i s d (by simpa using e) hd
    · cases i with
      | zero => rfl
      | succ i => exact oa.bx i d (by simpa using e)
    · have no : ∀ (i : Nat) (s : Slot) (d : D), (ds.map Slot.v)[i]? = some s -> s.held = some d -> False := fun i s d e hd => by
        rw [List.getElem?_map, Option.map_eq_some_iff] at e
        obtain ⟨_, _, z⟩ := e
        subst z
        cases hd
      cases i with
      | zero =>
        cases j with
        | zero => exact absurd rfl hij
        | succ j => exact (no j t e (by simpa using h3) h4).elim
      | succ i => exact (no i s d (by simpa using h1) h2).elim
    · cases i with
      | zero => simp at e
      | succ i =>
        have e : (ds.map Slot.v)[i]? = some (.hp cs) := by simpa using e
        rw [List.getElem?_map, Option.map_eq_some_iff] at e
        obtain ⟨_, _, z⟩ := e
        cases z
  refine ⟨⟨a, []⟩, _, S1, .box b :: ds.map .v, by simp [l1], ob, ?_⟩
  have ownNe : ∀ {i : Nat} {t : Slot} {g : D} {p : Addr}, (∀ c, c ≠ a -> H1 c = none -> p = c -> True) -> True := fun _ => trivial
  cases q : f (.box b :: ds.map .v) with
  | ok p =>
    obtain ⟨s, ρ'⟩ := p
    rw [q] at c1
    intro σ' x S' H' e' o'
    have e2 : Ext Fr S1 S' := e'.anti anti
    cases s with
    | v d =>
      cases ρ' with
      | nil => exact c1.elim
      | cons sb ρ' =>
        cases sb with
        | box b' =>
          cases σ' with
          | nil => exact absurd o'.len (by simp)
          | cons x0 σ' =>
            obtain ⟨y, q3, q4⟩ := o'.vs 0 d rfl
            have q5 : x = y := by simpa using q3
            subst q5
            exact c1 x S' H' e2 ((o1.backX q1 ea e' o'.tail).push q4)
        | no => exact c1.elim
        | pt z => exact c1.elim
        | bor j z => exact c1.elim
        | hp z => exact c1.elim
        | v z => exact c1.elim
        | own z => exact c1.elim
    | own d =>
      cases ρ' with
      | nil => exact c1.elim
      | cons sb ρ' =>
        cases sb with
        | box b' =>
          cases σ' with
          | nil => exact absurd o'.len (by simp)
          | cons x0 σ' =>
            obtain ⟨p, u, q3, q4, q5, q6, q7⟩ := o'.ow 0 _ d rfl rfl
            have q8 : x = .ref p := by simpa using q3
            subst q8
            have hpa : p ≠ a := fun z => by
              have g1 := o'.bx 1 b' rfl
              have g2 := o'.inj 0 1 _ _ d b' p (by omega) rfl rfl rfl rfl rfl
              rw [g1, z] at g2
              exact g2 rfl
            have hp1 : H1 p = none := by simpa [hpa] using q7
            have hF : Fr p = none := by
              cases z : Fr p with
              | none => rfl
              | some w => rw [o1.fr p w z] at hp1; cases hp1
            have hc : ∀ (i : Nat) (cs : List Cell), (putAt ρ1 k b')[i]? = some (.hp cs) -> ∃ α, CelX G B Fr S' (putAt ρ1 k b') σ H' cs α /\ ∀ (k : Nat) (c : Cell), cs[k]? = some c -> c.mut = true -> α[k]? ≠ some p := fun i cs ei => by
              obtain ⟨s0, w1, _, w2⟩ := putAt_back ei
              obtain ⟨α, c⟩ := o1.ce.ex i cs (by rw [w1, w2 cs rfl])
              obtain ⟨α, c', n⟩ := c.offNew e'.same (fun _ _ z => z) (fun c u q1' q2' q3' q4' q5' => by
                have hn : c ≠ a := fun z => by
                  unfold heldAt at q1
                  cases y : ρ1[k]? with
                  | none => rw [y] at q1; cases q1
                  | some s0 =>
                    rw [y] at q1
                    cases s0 with
                    | no => cases q1
                    | v z => cases q1
                    | pt z => cases q1
                    | hp z => cases q1
                    | own d0 => exact q5' k _ d0 y rfl (by rw [ea, z])
                    | box d0 => exact q5' k _ d0 y rfl (by rw [ea, z])
                    | bor j0 d0 => exact q5' k _ d0 y rfl (by rw [ea, z])
                exact ⟨o'.fr c u (by simp [hn, q1']), e'.fresh c u q2' (by simp [hn, q1']) q4', q3'⟩) hp1
              exact ⟨α, c'.slots fun j t z _ => by
                obtain ⟨s', w1, w2, _⟩ := putAt_back z
                exact .inl ⟨j, s', w1, rfl, w2⟩, n⟩
            refine c1 (.ref p) S' H' e2 ((o1.backX q1 ea e' o'.tail).pushOwn q4 q5 q6 hF (fun i t g h1 h2 z => ?_) hc)
            have hold : ∃ t' g', ρ1[i]? = some t' /\ t'.held = some g' := by
              unfold putAt at h1
              cases y : ρ1[k]? with
              | none => rw [y] at h1; exact ⟨t, g, h1, h2⟩
              | some s0 =>
                rw [y] at h1
                by_cases hik : k = i
                · subst hik
                  unfold heldAt at q1
                  rw [y] at q1
                  cases s0 with
                  | no => cases q1
                  | v z => cases q1
                  | own z => exact ⟨_, z, y, rfl⟩
                  | box z => exact ⟨_, z, y, rfl⟩
                  | bor j z => exact ⟨_, z, y, rfl⟩
                  | pt z => cases q1
                  | hp z => cases q1
                · cases s0 with
                  | no => exact ⟨t, g, h1, h2⟩
                  | v z => exact ⟨t, g, h1, h2⟩
                  | own z => dsimp only at h1; rw [List.getElem?_set_ne hik] at h1; exact ⟨t, g, h1, h2⟩
                  | box z => dsimp only at h1; rw [List.getElem?_set_ne hik] at h1; exact ⟨t, g, h1, h2⟩
                  | bor j z => dsimp only at h1; rw [List.getElem?_set_ne hik] at h1; exact ⟨t, g, h1, h2⟩
                  | pt z => exact ⟨t, g, h1, h2⟩
                  | hp z => exact ⟨t, g, h1, h2⟩
            obtain ⟨t', g', y1, y2⟩ := hold
            obtain ⟨c, u2, z1, z2, _⟩ := o1.ow i t' g' y1 y2
            rw [z] at z1
            cases z1
            rw [hp1] at z2
            cases z2
        | no => exact c1.elim
        | pt z => exact c1.elim
        | bor j z => exact c1.elim
        | hp z => exact c1.elim
        | v z => exact c1.elim
        | own z => exact c1.elim
    | no => exact c1.elim
    | pt z => exact c1.elim
    | bor j z => exact c1.elim
    | hp z => exact c1.elim
    | box d => exact c1.elim
  | err cc ρ' =>
    rw [q] at c1
    cases ρ' with
    | nil => exact c1.elim
    | cons sb ρ' =>
      cases sb with
      | box b' =>
        intro σ' S' H' e' o'
        cases σ' with
        | nil => exact absurd o'.len (by simp)
        | cons x0 σ' => exact c1 S' H' (e'.anti anti) (o1.backX q1 ea e' o')
      | no => exact c1.elim
      | pt z => exact c1.elim
      | bor j z => exact c1.elim
      | hp z => exact c1.elim
      | v z => exact c1.elim
      | own z => exact c1.elim
  | stuck =>
    rw [q] at c1
    exact c1.elim
theorem fnX_walk {f : MF} {ms : ME -> ML} {n k : Nat} {Q : VK} (hl : LenIs ms n) (h : tM G W (mFnX f k ms) σ H Q) : tCallS (spM G (n + 1) f) (WE W) (tCons (tVar k) (tMs G W ms)) σ H Q := by
 obtain ⟨B, Fr, S, ρ, o, c⟩ := h
 unfold mFnX at c
 cases q0 : heldAt ρ k with
 | none => rw [q0] at c; exact c.elim
 | some b0 =>
  rw [q0] at c
  obtain ⟨a, ho, ea, eo, ro⟩ := o.held q0
  refine ⟨.ref a, ea, args' hl o c fun ds ρ1 xs S1 H1 e1 o1 r1 l1 c1 => ?_⟩
  dsimp only at c1
  cases q1 : heldAt ρ1 k with
  | none => rw [q1] at c1; exact c1.elim
  | some b =>
   rw [q1] at c1
   exact fnX_core o1 r1 l1 q1 ea c1
end
section
variable {X : Cx} {W : WX} {x y : Str} {n k : Nat} {f : MF} {p pos p2 : Pos} {e : Expr} {es : List Expr} {ms : ME -> ML}
theorem me_fn (F : DefOk X.prog X.w X.K X.mg X.base x n k f) (hr : Room n X.A) (tk : Takes X W) (hg : Gl X x) (ha : PA X (e :: es) (tMs (gOf X) W ms)) (hl : LenIs ms k)
    (hc : X.calm = true := by rfl) (hdb : (x == ("__debug__" : Str)) = false := by decide) (he : starEach (e :: es) X.env = (false, eval e X.env) :: starEach es X.env := by rfl) (hpl : (backTo pos (starEach es X.env)).any (·.1) = false := by rfl) :
    PE X (.Call (.Name x p) (e :: es) [] pos) (tM (gOf X) W (mFn f ms)) := by
  obtain ⟨a, fd, ps, h1, h2, h3, h4, h5⟩ := F
  have eg : gOf X = ⟨X.prog, X.w, X.K, X.mg, none⟩ := by unfold gOf; rw [hc]; rfl
  exact PE.imp (pe_callS h5 hr hg h1 h2 h3 (passAt tk) ha hdb he hpl) fun σ H Q h => by rw [<- eg]; exact fn_walk hl h
theorem me_fnX (i : Nat) (F : DefOk X.prog X.w X.K X.mg X.base x n (k + 1) f) (hr : Room n X.A) (tk : Takes X W) (hg : Gl X x) (ha : PA X es (tMs (gOf X) W ms)) (hl : LenIs ms k) (hN : X.N[i]? = some y := by rfl) (hv : Vis X.env.scope y := by first | exact Or.inl rfl | exact Or.inr (Or.inl rfl) | exact Or.inr (Or.inr rfl))
    (hd : (y == ("__debug__" : Str)) = false := by decide) (hcd : (y == ("__classdict__" : Str)) = false := by decide)
    (hc : X.calm = true := by rfl) (hdb : (x == ("__debug__" : Str)) = false := by decide) (he : starEach (.Name y p2 :: es) X.env = (false, eval (.Name y p2) X.env) :: starEach es X.env := by rfl) (hpl : (backTo pos (starEach es X.env)).any (·.1) = false := by rfl) :
    PE X (.Call (.Name x p) (.Name y p2 :: es) [] pos) (tM (gOf X) W (mFnX f i ms)) := by
  obtain ⟨a, fd, ps, h1, h2, h3, h4, h5⟩ := F
  have eg : gOf X = ⟨X.prog, X.w, X.K, X.mg, none⟩ := by unfold gOf; rw [hc]; rfl
  exact PE.imp (pe_callS h5 hr hg h1 h2 h3 (passAt tk) (pa_cons (pe_var hN hv hd hcd) ha he) hdb he hpl) fun σ H Q h => by rw [<- eg]; exact fnX_walk hl h
end
end Mp
namespace Mp
open PySem PySem.Spec PyProof.Rows L2
open AutoSeq1 (wpAny_loadPart')
theorem tuple_mul1 (l : Addr) (items : Array Value) (n : Nat) (dd : Option Addr) (sl : Array (Option Value)) (u : Tok) :
    Meets (Builtin.«tuple.__mul__» ⟨[.ref l, .int 1 u], []⟩) (fun _ R s => s.heap.get? l = some { cls := .type "tuple", dict := dd, data := .seq items n, slots := sl } /\
      R (.ok (.ret (Value.ref l))) s) :=
  .of_wp fun prog w A R s h => by
    obtain ⟨hp, g, d, tk, os⟩ := s
    obtain ⟨hl, h⟩ := h
    have f1 := AutoSeq1.idx_int
    have e1 : (items.isEmpty || (1 : Int) == 1) = true := by simp
    wp_walk using wpAny_loadPart' hl
    all_goals (try exact ⟨_, rfl, h⟩)
theorem tuple_mul0 (l : Addr) (items : Array Value) (n : Nat) (dd : Option Addr) (sl : Array (Option Value)) (x : Int) (u : Tok) (c0 : (decide (x < -(2 ^ 63)) || decide (x ≥ 2 ^ 63)) = false) (c1 : (items.isEmpty || x == 1) = false) (c2 : (decide (x ≤ 0) || items.isEmpty) = true) :
    Meets (Builtin.«tuple.__mul__» ⟨[.ref l, .int x u], []⟩) (fun _ R s => s.heap.get? l = some { cls := .type "tuple", dict := dd, data := .seq items n, slots := sl } /\
      R (.ok (.ret (Value.ref s.heap.objs.size))) { s with heap := s.heap.push { cls := Value.type "tuple", data := Data.seq #[] }, toks := s.toks }) :=
  .of_wp fun prog w A R s h => by
    obtain ⟨hp, g, d, tk, os⟩ := s
    obtain ⟨hl, h⟩ := h
    have f1 := AutoSeq1.idx_int
    wp_walk using wpAny_loadPart' hl
    repeat (first
      | (refine wpAny_ite_false (decide_eq_false (by rw [c0]; exact Bool.false_ne_true)) ?_; wp_walk using wpAny_loadPart' hl)
      | (refine wpAny_ite_false (decide_eq_false (by rw [c1]; exact Bool.false_ne_true)) ?_; wp_walk using wpAny_loadPart' hl)
      | (refine wpAny_ite_true (decide_eq_true (by rw [c2])) ?_; wp_walk using wpAny_loadPart' hl))
    all_goals (try exact ⟨_, rfl, h⟩)
def rRepT01 (K : PySem.W.Frag) : R2 := fun x y H Q => ∃ l k xs, x = .ref l /\ y = .int k /\ SqT K H l xs /\ xs ≠ [] /\ -1000 ≤ k /\ k ≤ 1 /\ (k = 1 -> Q (.ref l) H) /\ (k ≠ 1 -> ∀ p, H p = none -> Q (.ref p) (upd H p (.tup [])))
theorem op_repT01 {X : Cx} : OpR X (binaryOp .Mult) (rRepT01 X.K) := by
 intro pins s σ H x y v u Q I rx ry h
 obtain ⟨l, k, xs, rfl, rfl, hT, hne, h1, h2, q1, q0⟩ := h
 cases rx
 obtain ⟨t, rfl⟩ := ry
 obtain ⟨its, r, ⟨⟨cls, dd, data, sl⟩, ho, hc, n, hd⟩, hs⟩ := I.tuple hT
 simp only at hc hd
 subst hc hd
 have hle : its.length = xs.length := r.length.symm
 have hn : its ≠ [] := fun e => hne (by
  rw [e] at hle
  exact List.eq_nil_of_length_eq_zero hle.symm)
 have hi : its.toArray.isEmpty = false := by
  cases its with
  | nil => exact absurd rfl hn
  | cons a b => rfl
 by_cases hk : k = 1
 ·subst hk
  exact wpAny_binaryOp_repeat_ref (T := "tuple") (U := "int") (by decide) ⟨_, ho, rfl⟩ (fun s' => typeIs_int s' 1 t) L2.noFill_tuple_mul F.fills_int_mul F.slot_int_rmul L2.repeat_tuple F.slot_int_index.lookup
   (call_meets F.slot_int_rmul (typeIs_int s 1 t) F.entry_int_rmul (F.args_int_rmul_2 _ _) (L2.int_rmul_tuple 1 t l its.toArray n dd sl)
    ⟨ho, rfl, ⟨_, ho, rfl⟩, call_meets F.slot_tuple_mul ⟨_, ho, rfl⟩ F.entry_tuple_mul (F.args_tuple_mul_2 _ _) (tuple_mul1 l its.toArray n dd sl t) ⟨ho, ⟨.ref l, H, I, rfl, q1 rfl⟩⟩⟩)
 ·have c0 : (decide (k < -(2 ^ 63)) || decide (k ≥ 2 ^ 63)) = false := by
   rw [decide_eq_false (by omega), decide_eq_false (by omega)] <;> rfl
  have c1 : (its.toArray.isEmpty || k == 1) = false := by
   rw [hi, Bool.false_or]
   exact beq_eq_false_iff_ne.mpr hk
  have c2 : (decide (k ≤ 0) || its.toArray.isEmpty) = true := by
   rw [decide_eq_true (by omega)] <;> rfl
  refine wpAny_binaryOp_repeat_ref (T := "tuple") (U := "int") (by decide) ⟨_, ho, rfl⟩ (fun s' => typeIs_int s' k t) L2.noFill_tuple_mul F.fills_int_mul F.slot_int_rmul L2.repeat_tuple F.slot_int_index.lookup
   (call_meets F.slot_int_rmul (typeIs_int s k t) F.entry_int_rmul (F.args_int_rmul_2 _ _) (L2.int_rmul_tuple k t l its.toArray n dd sl)
    ⟨ho, rfl, ⟨_, ho, rfl⟩, call_meets F.slot_tuple_mul ⟨_, ho, rfl⟩ F.entry_tuple_mul (F.args_tuple_mul_2 _ _) (tuple_mul0 l its.toArray n dd sl k t c0 c1 c2) ⟨ho, ?_⟩⟩)
  refine ⟨.ref s.heap.objs.size, _, I.laid (t' := s.toks) (o := .tup []) (fun b ob q => Heap.get?_push_of_some _ q) (Nat.le_refl _) ?_, rfl, q0 hk _ (I.hok.fresh (Nat.le_refl _))⟩
  exact ⟨by rw [sizeLine_eq]; simp, [], .nil, IsTup.new _ _⟩
def gMulT : D -> D -> Option Slot
 | .tup xs, .int k => if xs ≠ [] /\ -1000 ≤ k /\ k ≤ 1000 /\ xs.length ≤ 1000 then some (.v (.tup (List.replicate k.toNat xs).flatten)) else none
 | _, _ => none
theorem sem_mulT {G : Gd} : Sem2 G (fun x y H Q => rRepT G.K x y H Q \/ rRepT01 G.K x y H Q) gMulT := by
 intro B Fr S ρ σ H x y d e s Q o rx ry hg k
 cases d with
 | tup xs =>
  cases e with
  | int j =>
   simp only [Rep] at rx ry
   subst ry
   obtain ⟨a, vs, rfl, ha, ra⟩ := rx
   simp only [gMulT] at hg
   split at hg
   ·rename_i c
    cases hg
    obtain ⟨c1, c2, c3, c4⟩ := c
    have hne : vs ≠ [] := fun z => c1 (by have := ra.length; rw [z] at this; exact List.eq_nil_of_length_eq_zero this.symm)
    by_cases h2 : 2 ≤ j
    ·exact .inl ⟨a, j, vs, rfl, rfl, SqT.of (o.tupAt ha), hne, h2, c3, by rw [ra.length]; exact c4, fun p hp => k.tup o (ra.rep _) hp⟩
    ·refine .inr ⟨a, j, vs, rfl, rfl, SqT.of (o.tupAt ha), hne, c2, by omega, fun e1 => ?_, fun e1 p hp => ?_⟩
     ·subst e1
      have e2 : (List.replicate (1 : Int).toNat xs).flatten = xs := by simp
      rw [e2] at k
      refine k.rep o ?_
      simp only [Rep]
      exact ⟨a, vs, rfl, ha, ra⟩
     ·have e2 : j.toNat = 0 := by omega
      rw [e2] at k
      exact k.tup o (by simp only [List.replicate_zero, List.flatten_nil]; exact Reps.nil) hp
   ·cases hg
  | _ => cases hg
 | _ => cases e <;> cases hg
def gOr (g g' : D -> D -> Option Slot) : D -> D -> Option Slot := fun d e => match g d e with
 | some s => some s
 | none => g' d e
theorem Sem2.or {G : Gd} {r r' : R2} {g g' : D -> D -> Option Slot} (h : Sem2 G r g) (h' : Sem2 G r' g') : Sem2 G (fun x y H Q => r x y H Q \/ r' x y H Q) (gOr g g') := by
 intro B Fr S ρ σ H x y d e s Q o rx ry hg k
 unfold gOr at hg
 cases q : g d e with
 | some t => rw [q] at hg; cases hg; exact .inl (h o rx ry q k)
 | none => rw [q] at hg; exact .inr (h' o rx ry hg k)
def gMulA : D -> D -> Option Slot := gOr gMul gMulT
theorem me_mulA {X : Cx} {W : WX} {a b : Expr} {pos : Pos} {ma mb : ME -> MR} (ha : PE X a (tM (gOf X) W ma)) (hb : PE X b (tM (gOf X) W mb)) : PE X (.BinOp a .Mult b pos) (tM (gOf X) W (mOp gMulA ma mb)) := me_op (OpR.or op_mulA (OpR.or L2.op_repT op_repT01)) (Sem2.or sem_mul sem_mulT) ha hb
end Mp
namespace Mp
open PySem PySem.Spec PyProof.Rows L2
def enumD : Nat -> List D -> List D
 | _, [] => []
 | n, x :: xs => .tup [.int (n : Nat), x] :: enumD (n + 1) xs
theorem enumD_len : ∀ (n : Nat) (xs : List D), (enumD n xs).length = xs.length
 | _, [] => rfl
 | n, x :: xs => by simp [enumD, enumD_len (n + 1) xs]
theorem enumD_get : ∀ (n : Nat) (xs : List D) (i : Nat) (x : D), xs[i]? = some x -> (enumD n xs)[i]? = some (.tup [.int ((n + i : Nat) : Int), x])
 | n, x' :: xs, 0, x, h => by simp at h; subst h; rfl
 | n, x' :: xs, i + 1, x, h => by
  have := enumD_get (n + 1) xs i x (by simpa using h)
  show (enumD (n + 1) xs)[i]? = _
  rw [this]
  have e : n + 1 + i = n + (i + 1) := by omega
  rw [e]
 | _, [], _, _, h => by simp at h
def mEnum (ms : ME -> ML) : ME -> MI := fun ρ => bnd (ms ρ) fun p => match p.1 with
 | [.lst xs] => .ok (enumD 0 xs, p.2)
 | _ => .stuck
def PD (X : Cx) (W : WX) (pos : Pos) (keys : List (Option Expr)) (values : List Expr) (ks : List Key) (ms : ME -> ML) : Prop :=
 ∃ trs, PPs X pos keys values trs /\ ∀ σ H Q, tMs (gOf X) W ms σ H (fun vs H' => vs.length = ks.length -> Q ((ks.map kV).zip vs) H') -> tPairs trs σ H Q
theorem pd_nil {X : Cx} {W : WX} {pos : Pos} : PD X W pos [] [] [] mNil := ⟨[], pps_nil, fun σ H Q h => by
 obtain ⟨B, Fr, S, ρ, o, c⟩ := h
 exact c [] S H Ext.refl o Reps.nil rfl⟩
theorem pd_cons {X : Cx} {W : WX} {pos : Pos} {k v : Expr} {keys : List (Option Expr)} {values : List Expr} {key : Key} {ks : List Key} {m : ME -> MR} {ms : ME -> ML} (hk : PE X k (tC (kV key))) (hv : PE X v (tM (gOf X) W m)) (hr : PD X W pos keys values ks ms) :
    PD X W pos (some k :: keys) (v :: values) (key :: ks) (mCons m ms) := by
  obtain ⟨trs, h1, h2⟩ := hr
  refine ⟨_, pps_cons hk hv h1, fun σ H Q h => ?_⟩
  obtain ⟨B, Fr, S, ρ, o, c⟩ := h
  refine opndL o c fun d ρ1 x S1 H1 e1 o1 r1 c1 => h2 σ H1 _ ⟨B, Fr, S1, ρ1, o1, ?_⟩
  cases q : ms ρ1 with
  | ok p =>
    obtain ⟨ds, ρ2⟩ := p
    intro xs S2 H2 e2 o2 r2 hl
    rw [q] at c1
    exact c1 (x :: xs) S2 H2 e2 o2 (Reps.cons (r1.mono e2.same) r2) (by simp [hl])
  | err cc ρ2 => rw [q] at c1; exact c1
  | stuck => rw [q] at c1; exact c1
def mDisp (ks : List Key) (ms : ME -> ML) : ME -> MR := fun ρ => bnd (ms ρ) fun p => if p.1.length = ks.length then .ok (.own (.dK ks p.1), p.2) else .stuck
theorem putK_new {kvs : List (Key × V)} {k : Key} {v : V} (h : k ∉ kvs.map (·.1)) : putK kvs k v = kvs ++ [(k, v)] := by
 unfold putK
 rw [if_neg]
 intro z
 rw [List.any_eq_true] at z
 obtain ⟨q, hq, e⟩ := z
 exact h (List.mem_map.mpr ⟨q, hq, of_decide_eq_true e⟩)
theorem mergeK_nodup : ∀ (more kvs : List (Key × V)), ((kvs ++ more).map (·.1)).Nodup -> mergeK kvs more = kvs ++ more
 | [], kvs, _ => by rw [List.append_nil]; rfl
 | q :: r, kvs, h => by
  have e : kvs ++ q :: r = (kvs ++ [q]) ++ r := by simp
  have h1 : q.1 ∉ kvs.map (·.1) := fun z => by
   rw [List.map_append, List.map_cons, List.nodup_append] at h
   exact h.2.2 _ z _ (List.mem_cons_self ..) rfl
  show mergeK (putK kvs q.1 q.2) r = _
  rw [putK_new h1, e]
  exact mergeK_nodup r _ (by rw [<- e]; exact h)
theorem zip_fst {κ : Type} {ks : List κ} {vs : List V} (h : vs.length = ks.length) : (ks.zip vs).map (·.1) = ks := by
 rw [List.map_fst_zip]
 omega
theorem me_disp {X : Cx} {W : WX} {pos : Pos} {keys : List (Option Expr)} {values : List Expr} {ks : List Key} {ms : ME -> ML} {n : Nat} (h : PD X W pos keys values ks ms) (hn : ks.Nodup) (hk : ks.length ≤ 15) (hall : keys.all (·.isSome) = true := by rfl) (hl : keys.length = values.length := by rfl) (h0 : keys ≠ [] := by intro z; cases z)
    (h15 : keys.length ≤ 15 := by decide) : PE X (.Dict keys values pos) (tM (gOf X) W (mDisp ks ms)) := by
  obtain ⟨trs, h1, h2⟩ := h
  refine PE.imp (pe_disp h1 hall hl h0 h15) fun σ H Q h p hp => h2 _ _ _ ?_
  obtain ⟨B, Fr, S, ρ, o, c⟩ := h
  obtain ⟨fp, sp⟩ := o.free hp
  refine ⟨B, upd Fr p (.dK []), S, ρ, o.lay hp, ?_⟩
  have frL2 : ∀ b o, Fr b = some o -> upd Fr p (.dK []) b = some o := fun b o hb => by
    have nb : b ≠ p := fun z => by rw [z, fp] at hb; cases hb
    rw [upd_ne nb]; exact hb
  have frL : ∀ {T : Hp} (b : Addr) (o : HO), T b = none -> Fr b = some o -> NT o -> ∃ o', upd Fr p (.dK []) b = some o' /\ NT o' := fun {T} b o _ hb n => ⟨o, frL2 b o hb, n⟩
  have hFp : upd Fr p (.dK []) p = some (.dK []) := upd_same
  unfold mDisp at c
  cases q : ms ρ with
  | ok pr =>
    obtain ⟨ds, ρ2⟩ := pr
    rw [q] at c
    intro xs S2 H2 e2 o2 r2 hlen
    have c' : Cont (gOf X) W B Fr S σ Q (if ds.length = ks.length then .ok (.own (.dK ks ds), ρ2) else .stuck) := c
    split at c'
    · rename_i hds
      have s2 : S2 p = none := e2.fresh p _ sp hFp trivial
      refine ⟨o2.fr p _ hFp, ks.zip xs, ?_, by rw [List.length_zip]; omega, ?_⟩
      · clear c' h1 h2 e2 o2 r2 hds c q hn hk
        induction ks generalizing xs with
        | nil => simp
        | cons k ks ih =>
          cases xs with
          | nil => simp at hlen
          | cons x xs => simp only [List.map_cons, List.zip_cons_cons]; rw [ih (xs := xs) (by simpa using hlen)]
      · rw [mergeK_nodup _ _ (by rw [List.nil_append, zip_fst hlen]; exact hn), List.nil_append]
        exact c' (.ref p) S2 _ (e2.anti frL) ((o2.bump (o' := .dK (ks.zip xs)) hFp s2).takeFr (Fr := Fr) (fun b o hb => by
          have nb : b ≠ p := fun z => by rw [z, fp] at hb; cases hb
          rw [upd_ne nb]; exact frL2 b o hb) (fun b o od sb z => by
          have nb : b ≠ p := fun y => by rw [y, upd_same] at z; cases z
          rw [upd_ne nb, upd_ne nb] at z; exact z) upd_same (show RepO (gOf X) S2 (.dK (ks.zip xs)) (.dK ks ds) from ⟨xs, rfl, hlen.symm, r2⟩) s2 fp)
    · exact c'.elim
  | err cc ρ2 =>
    rw [q] at c
    exact fun S2 H2 e2 o2 => c S2 H2 (e2.anti frL) (o2.less frL2 fun b ob od sb z => by
      have nb : b ≠ p := fun y => by rw [y, upd_same] at z; cases z
      rw [upd_ne nb] at z; exact z)
  | stuck =>
    rw [q] at c
    exact c.elim
theorem pk_str {X : Cx} {i : Str} {j : Nat} {pos : Pos} : PE X (.Constant (.str i) j pos) (tC (kV (.inr i))) := pe_str
def tupAt? (K : PySem.W.Frag) (u : Value) : Option (List Value) := match u with
 | .ref a => match K.lookup a with
  | some o => match o.data with
   | .seq its _ => if o.cls == .type "tuple" && decide (its.size ≤ 1000) then some its.toList else none
   | _ => none
  | none => none
 | _ => none
def dicAt? (K : PySem.W.Frag) (u : Value) : Option (List DictEntry) := match u with
 | .ref a => match K.lookup a with
  | some o => match o.data with
   | .dict es _ => if o.cls == .type "dict" && o.dict.isNone && o.slots.isEmpty && !(a == sysModules) && decide (es.size ≤ 1000) then some es.toList else none
   | _ => none
  | none => none
 | _ => none
def keysB : List DictEntry -> List Key -> Bool
 | [], [] => true
 | e :: es, .inl k :: ks => keyIs (.inl k) e.key && decide (e.hash = hashInt k) && keysB es ks
 | _, _ => false
mutual
def repB (K : PySem.W.Frag) : D -> Value -> Bool
 | .non, u => match u with
  | .none => true
  | _ => false
 | .bl b, u => match u with
  | .bool c => b == c
  | _ => false
 | .int i, u => match u with
  | .int j _ => decide (i = j)
  | _ => false
 | .str x, u => match u with
  | .str y _ => decide (x = y)
  | _ => false
 | .ktp ds, u => match tupAt? K u with
  | some us => repsB K ds us
  | none => false
 | .kdc ks ds, u => match dicAt? K u with
  | some es => keysB es ks && decide ks.Nodup && repsB K ds (es.map (·.val))
  | none => false
 | .tup _, _ => false
 | .lst _, _ => false
 | .dK _ _, _ => false
 | .dT _ _, _ => false
 | .ins _ _ _, _ => false
 | .scr _, _ => false
 | .exn, _ => false
 | .exf _ _, _ => false
def repsB (K : PySem.W.Frag) : List D -> List Value -> Bool
 | [], us => us.isEmpty
 | d :: ds, us => match us with
  | u :: us => repB K d u && repsB K ds us
  | [] => false
end
theorem keysB_ok {P : Program} {w : World} : ∀ {es : List DictEntry} {ks : List Key}, keysB es ks = true -> (∀ e ∈ es, ∃ k, (mixKind P w).is k e.key = true /\ e.hash = (mixKind P w).hash k) /\ es.length = ks.length /\ ∀ us : List Value, us = es.map (·.val) -> Pairs (mixKind P w) es (ks.zip us)
 | [], [], _ => ⟨fun _ h => (by cases h), rfl, fun us h => by subst h; exact .nil⟩
 | e :: es, .inl k :: ks, h => by
  simp only [keysB, Bool.and_eq_true, decide_eq_true_eq] at h
  obtain ⟨⟨h1, h2⟩, h3⟩ := h
  obtain ⟨g1, g2, g3⟩ := keysB_ok (P := P) (w := w) h3
  refine ⟨fun e' he => ?_, by simp [g2], fun us hu => ?_⟩
  ·rcases List.mem_cons.mp he with z | z
   ·subst z; exact ⟨.inl k, h1, h2⟩
   ·exact g1 e' z
  ·subst hu
   exact .cons h1 rfl (g3 _ rfl)
 | [], _ :: _, h => by cases h
 | _ :: _, [], h => by cases h
 | _ :: _, .inr _ :: _, h => by cases h
theorem kv_zip : ∀ {ks : List Key} {vs : List V} {us : List Value}, Vals vs us -> KV (ks.zip vs) (ks.zip us)
 | [], _, _, _ => by simp only [List.zip_nil_left]; exact .nil
 | _ :: _, [], _, r => by cases r; exact .nil
 | k :: ks, v :: vs, _, r => by
  cases r with
  | cons h t => exact .cons ⟨rfl, h⟩ (kv_zip t)
section
variable {G : Gd}
mutual
theorem repB_ok : ∀ {d : D} {u : Value}, repB G.K d u = true -> ∃ v, RelV v u /\ ∀ S, Rep G S v d
 | .non, u, h => by
  cases u <;> first | (exact ⟨.non, rfl, fun S => by simp only [Rep]⟩) | (simp [repB] at h)
 | .bl b, u, h => by
  cases u with
  | bool c =>
   simp only [repB, beq_iff_eq] at h
   subst h
   exact ⟨.bl b, rfl, fun S => by simp only [Rep]⟩
  | _ => simp [repB] at h
 | .int i, u, h => by
  cases u with
  | int j t =>
   simp only [repB, decide_eq_true_eq] at h
   subst h
   exact ⟨.int i, ⟨t, rfl⟩, fun S => by simp only [Rep]⟩
  | _ => simp [repB] at h
 | .str i, u, h => by
  cases u with
  | str j t =>
   simp only [repB, decide_eq_true_eq] at h
   subst h
   exact ⟨.str i, ⟨t, rfl⟩, fun S => by simp only [Rep]⟩
  | _ => simp [repB] at h
 | .ktp ds, u, h => by
  simp only [repB] at h
  cases e : tupAt? G.K u with
  | none => rw [e] at h; cases h
  | some us =>
   rw [e] at h
   obtain ⟨vs, hv, hr⟩ := repsB_ok h
   cases u with
   | ref a =>
    refine ⟨.ref a, rfl, fun S => ?_⟩
    simp only [Rep]
    refine ⟨a, vs, rfl, .inr ?_, hr S⟩
    simp only [tupAt?] at e
    cases l : G.K.lookup a with
    | none => rw [l] at e; cases e
    | some o =>
     rw [l] at e
     obtain ⟨oc, od, dt, sl⟩ := o
     cases dt with
     | seq its n =>
      dsimp only at e
      split at e
      ·rename_i c
       cases e
       rw [Bool.and_eq_true, decide_eq_true_eq, beq_iff_eq] at c
       exact ⟨_, its, n, rfl, c.1, rfl, by have := sizeLine_eq; omega, hv⟩
      ·cases e
     | _ => cases e
   | _ => simp [tupAt?] at e
 | .kdc ks ds, u, h => by
  simp only [repB] at h
  cases e : dicAt? G.K u with
  | none => rw [e] at h; cases h
  | some es =>
   rw [e] at h
   simp only [Bool.and_eq_true, decide_eq_true_eq] at h
   obtain ⟨⟨h1, h2⟩, h3⟩ := h
   obtain ⟨vs, hv, hr⟩ := repsB_ok h3
   obtain ⟨g1, g2, g3⟩ := keysB_ok (P := G.P) (w := G.w) h1
   have hlv : vs.length = es.length := by rw [hv.length, List.length_map]
   cases u with
   | ref a =>
    refine ⟨.ref a, rfl, fun S => ?_⟩
    simp only [Rep]
    refine ⟨a, vs, rfl, ?_, by omega, hr S⟩
    simp only [dicAt?] at e
    cases l : G.K.lookup a with
    | none => rw [l] at e; cases e
    | some o =>
     rw [l] at e
     obtain ⟨oc, od, dt, sl⟩ := o
     cases dt with
     | dict es' ep =>
      dsimp only at e
      split at e
      ·rename_i c
       cases e
       simp only [Bool.and_eq_true, decide_eq_true_eq, beq_iff_eq, Bool.not_eq_true'] at c
       obtain ⟨⟨⟨⟨c1, c2⟩, c3⟩, c4⟩, c5⟩ := c
       refine ⟨c4, by rw [List.length_zip]; simp at hlv; have := sizeLine_eq; omega, ⟨oc, od, .dict es' ep, sl⟩, es', ep, ks.zip (es'.toList.map (·.val)), l, ⟨c1, by simpa using c2, by simpa using c3⟩, rfl, fun e' he => g1 e' (by simpa using he), g3 _ rfl, ?_, kv_zip hv⟩
       rw [List.map_fst_zip]
       ·exact h2
       ·rw [List.length_map]; omega
      ·cases e
     | _ => cases e
   | _ => simp [dicAt?] at e
 | .tup _, u, h => by simp [repB] at h
 | .lst _, u, h => by simp [repB] at h
 | .dK _ _, u, h => by simp [repB] at h
 | .dT _ _, u, h => by simp [repB] at h
 | .ins _ _ _, u, h => by simp [repB] at h
 | .scr _, u, h => by simp [repB] at h
 | .exn, u, h => by simp [repB] at h
 | .exf _ _, u, h => by simp [repB] at h
theorem repsB_ok : ∀ {ds : List D} {us : List Value}, repsB G.K ds us = true -> ∃ vs, Vals vs us /\ ∀ S, Reps G S vs ds
 | [], us, h => by
  cases us with
  | nil => exact ⟨[], .nil, fun S => Reps.nil⟩
  | cons _ _ => simp [repsB] at h
 | d :: ds, us, h => by
  cases us with
  | nil => simp [repsB] at h
  | cons u us =>
   simp only [repsB, Bool.and_eq_true] at h
   obtain ⟨v, h1, h2⟩ := repB_ok h.1
   obtain ⟨vs, h3, h4⟩ := repsB_ok h.2
   exact ⟨v :: vs, .cons h1 h3, fun S => Reps.cons (h2 S) (h4 S)⟩
end
end
def conK (x : Str) (d : D) (K : PySem.W.Frag) : Bool := match PySem.W.nsIn K mainGlobals x with
 | some (some u) => repB K d u
 | _ => false
theorem conK_ok {P : Program} {w : World} {K : PySem.W.Frag} {h : Heap} {mg : Str -> Option Value} {x : Str} {d : D} (X : K.In h) (Gm : h.Ns mainGlobals mg) (c : conK x d K = true) : KC ⟨P, w, K, mg, none⟩ x d := by
 unfold conK at c
 cases e : PySem.W.nsIn K mainGlobals x with
 | none => rw [e] at c; cases c
 | some o =>
  rw [e] at c
  cases o with
  | none => cases c
  | some u =>
   obtain ⟨v, h1, h2⟩ := repB_ok (G := ⟨P, w, K, mg, none⟩) c
   exact ⟨v, u, PySem.W.mg_of X Gm e, h1, h2⟩
theorem defIs_of {fa : List He.Fa} {fn : List He.DefD} {K : PySem.W.Frag} {h : Heap} {mg : Str -> Option Value} (X : K.In h) (Gm : h.Ns mainGlobals mg) (c : He.SaysD fa fn K) (i : Nat) {x qual : Str} {params : Arguments} {body : List Stmt} {scope : Scope}
    (hd : fn[i]? = some ⟨(x, none), x, qual, params, body, scope, [], []⟩) {j : Nat} (hf : fa[j]? = some (.glo x)) : DefIs K mg x qual params body scope := by
  obtain ⟨fd, F⟩ := c.def_ i hd
  exact ⟨_, fd, He.glo_ok X Gm (c.fact j hf), F⟩
theorem fn_closed {P : Program} {w : World} {K : PySem.W.Frag} {mg : Str -> Option Value} {base : Heap} {k : Nat} {f : Addr} {fd : FuncData} {ps : List Str} {sp : Sp} (F : FnOk P w K mg base (L2.CX P w) k f fd ps sp) :
    FnOk P w K mg base CX0 k f fd ps (fun vs H Q _ => sp vs H Q E0) := by
  refine ⟨fun vs H Q E q => F.len vs H Q E0 q, fun A outer s H args us vs Q E hr he hb hv hs => codeAny_mono (F.run A outer s H args us vs Q E0 hr he hb hv hs) fun r s' q => ?_⟩
  cases r with
  | ok fl => cases fl <;> exact q
  | error e =>
    obtain ⟨_, _, _, _, _, _, _, _, _, _, _, _, z⟩ := (show L2.CX P w outer H s E0 e s' from q)
    exact z.elim
theorem law_sp {P : Program} {w : World} {K : PySem.W.Frag} {mg : Str -> Option Value} {m : MF} {H : Hp} {a : Addr} {ns : List Int} (hS : SqL K H a (ns.map V.int)) (h : ∃ ρ, m [.v (.scr (ns.map D.int))] = .ok (.v (.bl true), ρ)) :
    spM ⟨P, w, K, mg, none⟩ 1 m [.ref a] H (fun v _ => v = .bl true) E0 := by
  obtain ⟨ρ, hm⟩ := h
  have ri : Reps ⟨P, w, K, mg, none⟩ H (ns.map V.int) (ns.map D.int) := by
    induction ns with
    | nil => exact Reps.nil
    | cons n ns ih =>
      rw [List.map_cons, List.map_cons]
      refine Reps.cons (by simp only [Rep]) ?_
      clear ih hm hS
      induction ns with
      | nil => exact Reps.nil
      | cons n ns ih => rw [List.map_cons, List.map_cons]; exact Reps.cons (by simp only [Rep]) ih
  refine ⟨⟨0, []⟩, fun _ => none, H, [.v (.scr (ns.map D.int))], rfl, ?_, ?_⟩
  · refine Ok.push (σ := []) ⟨fun b o e => (by cases e), fun b o e => .inl e, rfl, fun i d e => (by simp at e), fun i s d e hd => (by simp at e), fun i d e => (by simp at e), fun i j s t d e a hij h1 h2 h3 h4 h5 => (by simp at h1), CeOk.none fun i cs e => (by simp at e)⟩ ?_
    simp only [Rep]
    exact ⟨a, _, rfl, hS, ri⟩
  · rw [hm]
    intro σ x S' H' e o
    obtain ⟨y, q1, q2⟩ := o.vs 0 _ rfl
    have q3 : x = y := by simpa using q1
    subst q3
    simpa only [Rep] using q2
end Mp
namespace Mp
open PySem
theorem bt_len : bootBuiltins "len" = some (.builtin "len") := by decide +kernel
theorem bt_tuple : bootBuiltins "tuple" = some (.type "tuple") := by decide +kernel
theorem bt_list : bootBuiltins "list" = some (.type "list") := by decide +kernel
theorem bt_int : bootBuiltins "int" = some (.type "int") := by decide +kernel
theorem bt_bool : bootBuiltins "bool" = some (.type "bool") := by decide +kernel
theorem bt_str : bootBuiltins "str" = some (.type "str") := by decide +kernel
theorem bt_all : bootBuiltins "all" = some (.builtin "all") := by decide +kernel
end Mp
namespace Mp
open PySem PySem.Spec PyProof.Rows L2
def resK (r : Option Slot) (ρ : ME) : MR := match r with
 | some s => .ok (s, ρ)
 | none => .stuck
def call1K (g : D -> Option Slot) (r : MR) : MR := match r with
 | .ok (.v e, ρ) => resK (g e) ρ
 | .ok (.own e, ρ) => resK (g e) ρ
 | .ok _ => .stuck
 | .err c ρ => .err c ρ
 | .stuck => .stuck
def finK (r : MS) : MR := match r with
 | .ok (.rt s ρ) => .ok (s, ρ)
 | .ok (.nx ρ) => .ok (.v .non, ρ)
 | .err c ρ => .err c ρ
 | _ => .stuck
section
variable {a b c : ME -> MS} {m n o : ME -> MR} {ms : ME -> ML} {p q : ME -> MB} {ρ : ME} {g : D -> D -> Option Slot} {g1 : D -> Option Slot} {gl : List D -> Option Slot} {i k : Nat} {d e : D} {mi : ME -> MI} {t : MT} {f : MF} {vs : List Nat} {ks : List Key}
theorem r_mCall1 : mCall1 g1 m ρ = call1K g1 (m ρ) := by first | rfl | (unfold mCall1 call1K; (try unfold frz); (try unfold frzL); (try unfold frzS); (try unfold frzI); (try unfold bnd); (try dsimp only); first | rfl | (cases m ρ with | ok p => (obtain ⟨x, ρ1⟩ := p; first | rfl | (cases x <;> first | rfl | ((try dsimp only); (cases n ρ1 with | ok p => (obtain ⟨x, ρ1⟩ := p; first | rfl | (cases x <;> first | rfl)) | err _ _ => rfl | stuck => rfl)))) | err _ _ => rfl | stuck => rfl) | (repeat' split) <;> first | rfl | simp_all)
end
def b_draw : ME -> MS := (mSeq (mIfS (mAndB (mTst (mOp gLt (mIxV 0 (mC (.int 2))) (mVar 1))) (mTst (mOp gLt (mIxV 0 (mC (.int 1))) (mCall1 gLen (mIxV 0 (mC (.int 0)))))))
 (mSeq (mSet 2 (mIx (mIxV 0 (mC (.int 0))) (mIxV 0 (mC (.int 1))))) (mSeq (mSub 0 (mC (.int 1)) (mOp gAdd (mIxV 0 (mC (.int 1))) (mC (.int 1)))) (mSeq (mSub 0 (mC (.int 2)) (mC (.int 0))) (mSeq (mSub 0 (mC (.int 3)) (mOp gMod (mOp gAdd (mOp gAdd (mOp gMulA (mIxV 0 (mC (.int 3))) (mC (.int 69621))) (mVar 2)) (mIxV 0 (mC (.int 1)))) (mC (.int 2147483629)))) (mIfS (mTst (mOp gGe (mVar 2) (mOp gPow (mC (.int 10)) (mC (.int 18)))))
 (mSub 0 (mC (.int 2)) (mVar 2))
 mSkip)))))
 mSkip) (mSeq (mIfS (mTst (mOp gGe (mIxV 0 (mC (.int 2))) (mVar 1)))
 (mSeq (mSet 3 (mOp gMod (mIxV 0 (mC (.int 2))) (mVar 1))) (mSeq (mSub 0 (mC (.int 2)) (mOp gFdv (mIxV 0 (mC (.int 2))) (mVar 1))) (mRet (mVar 3))))
 mSkip) (mSeq (mSub 0 (mC (.int 4)) (mOp gAdd (mIxV 0 (mC (.int 4))) (mC (.int 1)))) (mSeq (mSub 0 (mC (.int 3)) (mOp gMod (mOp gAdd (mOp gAdd (mOp gPow (mIxV 0 (mC (.int 3))) (mC (.int 3))) (mOp gMulA (mC (.int 40487)) (mIxV 0 (mC (.int 4))))) (mC (.int 17))) (mC (.int 2147483629)))) (mRet (mOp gMod (mOp gFdv (mIxV 0 (mC (.int 3))) (mC (.int 11))) (mVar 1)))))))
def m_draw : MF := fnM 2 b_draw
def bxD (cells : List Int) (p h s c : Int) : D := .lst [.lst (cells.map .int), .int p, .int h, .int s, .int c]
def Bx (d : D) : Prop := ∃ cells p h s c, d = bxD cells p h s c /\ 0 ≤ p /\ 0 ≤ h /\ 0 ≤ s /\ s < 2147483629
theorem atI0 {α : Type} {a b c d e : α} : atI [a, b, c, d, e] 0 = some a := rfl
theorem atI1 {α : Type} {a b c d e : α} : atI [a, b, c, d, e] 1 = some b := rfl
theorem atI2 {α : Type} {a b c d e : α} : atI [a, b, c, d, e] 2 = some c := rfl
theorem atI3 {α : Type} {a b c d e : α} : atI [a, b, c, d, e] 3 = some d := rfl
theorem atI4 {α : Type} {a b c d e : α} : atI [a, b, c, d, e] 4 = some e := rfl
theorem ixN1 : ixN 5 1 = some 1 := rfl
theorem ixN2 : ixN 5 2 = some 2 := rfl
theorem ixN3 : ixN 5 3 = some 3 := rfl
theorem ixN4 : ixN 5 4 = some 4 := rfl
theorem atI_map {cells : List Int} {p : Int} (h0 : 0 ≤ p) (h1 : p < cells.length) : ∃ n : Int, atI (cells.map D.int) p = some (.int n) := by
 obtain ⟨k, rfl⟩ := Int.eq_ofNat_of_zero_le h0
 have hk : k < cells.length := by omega
 refine ⟨cells[k], atI_nat ?_⟩
 rw [List.getElem?_map, List.getElem?_eq_getElem hk] <;> rfl
theorem gMod_pos {i j : Int} (h : 0 < j) : gMod (.int i) (.int j) = some (.v (.int (i % j))) := by simp [gMod, h]
theorem log64 {n : Nat} (h : n < 18446744073709551616) : n.log2 < 9000 := by
 by_cases z : n = 0
 ·subst z; decide
 ·have := (Nat.log2_lt z (k := 64)).mpr (by simpa using h)
  omega
theorem gFdv_pos {i j : Int} (h : 0 < j) (h2 : j < 18446744073709551616) : gFdv (.int i) (.int j) = some (.v (.int (i / j))) := by
 have h3 : j.natAbs.log2 < 9000 := log64 (by omega)
 simp [gFdv, h, h3]
theorem gMul_l {i j : Int} (h0 : -18446744073709551616 < i) (h : i < 18446744073709551616) : gMulA (.int i) (.int j) = some (.v (.int (i * j))) := by
 have h3 : i.natAbs < 18446744073709551616 := by omega
 simp [gMulA, gOr, gMul, mulOk, h3]
theorem gMul_r {i j : Int} (h0 : -18446744073709551616 < j) (h : j < 18446744073709551616) : gMulA (.int i) (.int j) = some (.v (.int (i * j))) := by
 have h3 : j.natAbs < 18446744073709551616 := by omega
 simp [gMulA, gOr, gMul, mulOk, h3]
theorem gPow_s {i j : Int} (h : 0 ≤ j) (h1 : j ≤ 1000000) (h0 : -18446744073709551616 < i) (h2 : i < 18446744073709551616) : gPow (.int i) (.int j) = some (.v (.int (i ^ j.toNat))) := by
 have h3 : i.natAbs < 18446744073709551616 := by omega
 simp [gPow, h, h1, h3]
theorem gAdd_i {i j : Int} : gAdd (.int i) (.int j) = some (.v (.int (i + j))) := rfl
theorem gSub_i {i j : Int} : gSub (.int i) (.int j) = some (.v (.int (i - j))) := rfl
theorem gLt_i {i j : Int} : gLt (.int i) (.int j) = some (.v (.bl (decide (i < j)))) := rfl
theorem gLe_i {i j : Int} : gLe (.int i) (.int j) = some (.v (.bl (decide (i ≤ j)))) := rfl
theorem gGt_i {i j : Int} : gGt (.int i) (.int j) = some (.v (.bl (decide (j < i)))) := rfl
theorem gGe_i {i j : Int} : gGe (.int i) (.int j) = some (.v (.bl (decide (j ≤ i)))) := rfl
theorem gIx_l {ds : List D} {i : Int} : gIx (.lst ds) (.int i) = atI ds i := rfl
theorem gIx_t {ds : List D} {i : Int} : gIx (.tup ds) (.int i) = atI ds i := rfl
theorem gIx_k {ds : List D} {i : Int} : gIx (.ktp ds) (.int i) = atI ds i := rfl
theorem gLen_l {ds : List D} : gLen (.lst ds) = some (.v (.int ds.length)) := rfl
theorem gLen_t {ds : List D} : gLen (.tup ds) = some (.v (.int ds.length)) := rfl
theorem gLen_k {ds : List D} : gLen (.ktp ds) = some (.v (.int ds.length)) := rfl
theorem draw_tail (cells : List Int) (p h s c m : Int) (x2 x3 : Slot) (hs0 : 0 ≤ s) (hs : s < 2147483629) (hm : 0 < m) :
    (mSeq (mSub 0 (mC (.int 4)) (mOp gAdd (mIxV 0 (mC (.int 4))) (mC (.int 1)))) (mSeq (mSub 0 (mC (.int 3)) (mOp gMod (mOp gAdd (mOp gAdd (mOp gPow (mIxV 0 (mC (.int 3))) (mC (.int 3))) (mOp gMulA (mC (.int 40487)) (mIxV 0 (mC (.int 4))))) (mC (.int 17))) (mC (.int 2147483629)))) (mRet (mOp gMod (mOp gFdv (mIxV 0 (mC (.int 3))) (mC (.int 11))) (mVar 1)))))
      [.box (bxD cells p h s c), .v (.int m), x2, x3] = .ok (.rt (.v (.int ((s ^ 3 + 40487 * (c + 1) + 17) % 2147483629 / 11 % m))) [.box (bxD cells p h ((s ^ 3 + 40487 * (c + 1) + 17) % 2147483629) (c + 1)), .v (.int m), x2, x3]) := by
  have h1 : s < 18446744073709551616 := by omega
  have h2 : -18446744073709551616 < s := by omega
  unfold bxD
  (simp -implicitDefEqProofs only [Mp.fnM, Mp.mSeq, Mp.mIfS, Mp.mAndB, Mp.mOrB, Mp.mNotB, Mp.mAndV, Mp.mOrV, Mp.mNotV, Mp.mTst, Mp.mOp, Mp.mIxV, Mp.mIx, Mp.mVar, Mp.mC, Mp.mNeg, Mp.slotD, Mp.heldAt, Mp.putAt, Mp.frz, Mp.frzS, Mp.frzL, Mp.bnd, Mp.mSet, Mp.mSub, Mp.mRet, Mp.mRetN, Mp.mSkip, Mp.mDrop, Mp.mCall1, Mp.mCallV, Mp.mCall, Mp.mTup, Mp.mLst, Mp.mCons, Mp.mNil, Mp.mFn, Mp.mFnX, Mp.mIf, Mp.gMod_pos, Mp.gFdv_pos, Mp.gMul_l, Mp.gMul_r, Mp.gPow_s, Mp.gAdd_i, Mp.gSub_i, Mp.gLt_i, Mp.gLe_i, Mp.gGt_i, Mp.gGe_i, Mp.gIx_l, Mp.gIx_t, Mp.gIx_k, Mp.gLen_l, Mp.gLen_t, Mp.gLen_k, Mp.setD, List.getElem?_cons_zero, List.getElem?_cons_succ, List.set_cons_zero, List.set_cons_succ, Option.bind_some, Option.map_some, Option.bind_none, Option.map_none, List.length_cons, List.length_nil, List.length_map, List.map_cons, List.map_nil, decide_true, decide_false, if_true, if_false, Bool.false_eq_true, Bool.and_true, Bool.true_and, Bool.or_true, Bool.true_or, Bool.and_false, Bool.false_and, Bool.or_false, Bool.false_or, Bool.not_true, Bool.not_false, Mp.atI0, Mp.atI1, Mp.atI2, Mp.atI3, Mp.atI4, Mp.ixN1, Mp.ixN2, Mp.ixN3, Mp.ixN4, List.replicate, List.cons_append, List.nil_append, List.append_eq, Nat.zero_add, Nat.reduceAdd, Int.reduceLE, Int.reduceLT, Int.reduceNeg, Nat.reducePow, Nat.reduceLT, Int.reduceToNat, Nat.reduceLeDiff, h1, h2, hm])
theorem draw_mid (cells : List Int) (p h s c m : Int) (x2 : Slot) (hp : 0 ≤ p) (hh : 0 ≤ h) (hs0 : 0 ≤ s) (hs : s < 2147483629) (hm : 0 < m) (hml : m < 18446744073709551616) (rest : ME -> MS)
    (hr : ∀ x3, ∃ r d x, 0 ≤ r /\ r < m /\ Bx d /\ rest [.box (bxD cells p h s c), .v (.int m), x2, x3] = .ok (.rt (.v (.int r)) (.box d :: x))) :
    ∃ r d x, 0 ≤ r /\ r < m /\ Bx d /\ (mSeq (mIfS (mTst (mOp gGe (mIxV 0 (mC (.int 2))) (mVar 1)))
 (mSeq (mSet 3 (mOp gMod (mIxV 0 (mC (.int 2))) (mVar 1))) (mSeq (mSub 0 (mC (.int 2)) (mOp gFdv (mIxV 0 (mC (.int 2))) (mVar 1))) (mRet (mVar 3))))
 mSkip) rest) [.box (bxD cells p h s c), .v (.int m), x2, .no] = .ok (.rt (.v (.int r)) (.box d :: x)) := by
  by_cases hc : m ≤ h
  · refine ⟨h % m, bxD cells p (h / m) s c, [.v (.int m), x2, .v (.int (h % m))], Int.emod_nonneg _ (by omega), Int.emod_lt_of_pos _ hm, ⟨cells, p, h / m, s, c, rfl, hp, Int.ediv_nonneg hh (by omega), hs0, hs⟩, ?_⟩
    unfold bxD
    (simp -implicitDefEqProofs only [Mp.fnM, Mp.mSeq, Mp.mIfS, Mp.mAndB, Mp.mOrB, Mp.mNotB, Mp.mAndV, Mp.mOrV, Mp.mNotV, Mp.mTst, Mp.mOp, Mp.mIxV, Mp.mIx, Mp.mVar, Mp.mC, Mp.mNeg, Mp.slotD, Mp.heldAt, Mp.putAt, Mp.frz, Mp.frzS, Mp.frzL, Mp.bnd, Mp.mSet, Mp.mSub, Mp.mRet, Mp.mRetN, Mp.mSkip, Mp.mDrop, Mp.mCall1, Mp.mCallV, Mp.mCall, Mp.mTup, Mp.mLst, Mp.mCons, Mp.mNil, Mp.mFn, Mp.mFnX, Mp.mIf, Mp.gMod_pos, Mp.gFdv_pos, Mp.gMul_l, Mp.gMul_r, Mp.gPow_s, Mp.gAdd_i, Mp.gSub_i, Mp.gLt_i, Mp.gLe_i, Mp.gGt_i, Mp.gGe_i, Mp.gIx_l, Mp.gIx_t, Mp.gIx_k, Mp.gLen_l, Mp.gLen_t, Mp.gLen_k, Mp.setD, List.getElem?_cons_zero, List.getElem?_cons_succ, List.set_cons_zero, List.set_cons_succ, Option.bind_some, Option.map_some, Option.bind_none, Option.map_none, List.length_cons, List.length_nil, List.length_map, List.map_cons, List.map_nil, decide_true, decide_false, if_true, if_false, Bool.false_eq_true, Bool.and_true, Bool.true_and, Bool.or_true, Bool.true_or, Bool.and_false, Bool.false_and, Bool.or_false, Bool.false_or, Bool.not_true, Bool.not_false, Mp.atI0, Mp.atI1, Mp.atI2, Mp.atI3, Mp.atI4, Mp.ixN1, Mp.ixN2, Mp.ixN3, Mp.ixN4, List.replicate, List.cons_append, List.nil_append, List.append_eq, Nat.zero_add, Nat.reduceAdd, Int.reduceLE, Int.reduceLT, Int.reduceNeg, Nat.reducePow, Nat.reduceLT, Int.reduceToNat, Nat.reduceLeDiff, hc, hm, hml])
  · obtain ⟨r, d, x, h1, h2, h3, h4⟩ := hr .no
    refine ⟨r, d, x, h1, h2, h3, ?_⟩
    rw [<- h4]
    unfold bxD
    (simp -implicitDefEqProofs only [Mp.fnM, Mp.mSeq, Mp.mIfS, Mp.mAndB, Mp.mOrB, Mp.mNotB, Mp.mAndV, Mp.mOrV, Mp.mNotV, Mp.mTst, Mp.mOp, Mp.mIxV, Mp.mIx, Mp.mVar, Mp.mC, Mp.mNeg, Mp.slotD, Mp.heldAt, Mp.putAt, Mp.frz, Mp.frzS, Mp.frzL, Mp.bnd, Mp.mSet, Mp.mSub, Mp.mRet, Mp.mRetN, Mp.mSkip, Mp.mDrop, Mp.mCall1, Mp.mCallV, Mp.mCall, Mp.mTup, Mp.mLst, Mp.mCons, Mp.mNil, Mp.mFn, Mp.mFnX, Mp.mIf, Mp.gMod_pos, Mp.gFdv_pos, Mp.gMul_l, Mp.gMul_r, Mp.gPow_s, Mp.gAdd_i, Mp.gSub_i, Mp.gLt_i, Mp.gLe_i, Mp.gGt_i, Mp.gGe_i, Mp.gIx_l, Mp.gIx_t, Mp.gIx_k, Mp.gLen_l, Mp.gLen_t, Mp.gLen_k, Mp.setD, List.getElem?_cons_zero, List.getElem?_cons_succ, List.set_cons_zero, List.set_cons_succ, Option.bind_some, Option.map_some, Option.bind_none, Option.map_none, List.length_cons, List.length_nil, List.length_map, List.map_cons, List.map_nil, decide_true, decide_false, if_true, if_false, Bool.false_eq_true, Bool.and_true, Bool.true_and, Bool.or_true, Bool.true_or, Bool.and_false, Bool.false_and, Bool.or_false, Bool.false_or, Bool.not_true, Bool.not_false, Mp.atI0, Mp.atI1, Mp.atI2, Mp.atI3, Mp.atI4, Mp.ixN1, Mp.ixN2, Mp.ixN3, Mp.ixN4, List.replicate, List.cons_append, List.nil_append, List.append_eq, Nat.zero_add, Nat.reduceAdd, Int.reduceLE, Int.reduceLT, Int.reduceNeg, Nat.reducePow, Nat.reduceLT, Int.reduceToNat, Nat.reduceLeDiff, hc, hm, hml])
theorem draw_end (cells : List Int) (p h s c m : Int) (x2 : Slot) (hp : 0 ≤ p) (hh : 0 ≤ h) (hs0 : 0 ≤ s) (hs : s < 2147483629) (hm : 0 < m) (hml : m < 18446744073709551616) :
    ∃ r d x, 0 ≤ r /\ r < m /\ Bx d /\ (mSeq (mIfS (mTst (mOp gGe (mIxV 0 (mC (.int 2))) (mVar 1)))
 (mSeq (mSet 3 (mOp gMod (mIxV 0 (mC (.int 2))) (mVar 1))) (mSeq (mSub 0 (mC (.int 2)) (mOp gFdv (mIxV 0 (mC (.int 2))) (mVar 1))) (mRet (mVar 3))))
 mSkip) (mSeq (mSub 0 (mC (.int 4)) (mOp gAdd (mIxV 0 (mC (.int 4))) (mC (.int 1)))) (mSeq (mSub 0 (mC (.int 3)) (mOp gMod (mOp gAdd (mOp gAdd (mOp gPow (mIxV 0 (mC (.int 3))) (mC (.int 3))) (mOp gMulA (mC (.int 40487)) (mIxV 0 (mC (.int 4))))) (mC (.int 17))) (mC (.int 2147483629)))) (mRet (mOp gMod (mOp gFdv (mIxV 0 (mC (.int 3))) (mC (.int 11))) (mVar 1)))))) [.box (bxD cells p h s c), .v (.int m), x2, .no] = .ok (.rt (.v (.int r)) (.box d :: x)) := by
  refine draw_mid cells p h s c m x2 hp hh hs0 hs hm hml _ fun x3 => ⟨_, _, _, ?_, ?_, ?_, draw_tail cells p h s c m x2 x3 hs0 hs hm⟩
  · exact Int.emod_nonneg _ (by omega)
  · exact Int.emod_lt_of_pos _ hm
  · exact ⟨cells, p, h, _, _, rfl, hp, hh, Int.emod_nonneg _ (by omega), Int.emod_lt_of_pos _ (by omega)⟩
theorem draw_spec {d : D} {m : Int} (hd : Bx d) (hm : 0 < m) (hml : m < 18446744073709551616) : ∃ r d' x, 0 ≤ r /\ r < m /\ Bx d' /\ m_draw [.box d, .v (.int m)] = .ok (.v (.int r), .box d' :: x) := by
 obtain ⟨cells, p, h, s, c, rfl, hp, hh, hs0, hs⟩ := hd
 have key : ∃ r d' x, 0 ≤ r /\ r < m /\ Bx d' /\ b_draw [.box (bxD cells p h s c), .v (.int m), .no, .no] = .ok (.rt (.v (.int r)) (.box d' :: x)) := by
  unfold b_draw
  by_cases hc : h < m /\ p < (cells.length : Int)
  ·obtain ⟨n, hn⟩ := atI_map hp hc.2
   by_cases hb : 1000000000000000000 ≤ n
   ·obtain ⟨r, d', x, h1, h2, h3, h4⟩ := draw_end cells (p + 1) n ((s * 69621 + n + (p + 1)) % 2147483629) c m (.v (.int n)) (by omega) (by omega) (Int.emod_nonneg _ (by omega)) (Int.emod_lt_of_pos _ (by omega)) hm hml
    refine ⟨r, d', x, h1, h2, h3, ?_⟩
    rw [<- h4]
    have hc1 := hc.1
    have hc2 := hc.2
    unfold bxD
    (simp -implicitDefEqProofs only [Mp.fnM, Mp.mSeq, Mp.mIfS, Mp.mAndB, Mp.mOrB, Mp.mNotB, Mp.mAndV, Mp.mOrV, Mp.mNotV, Mp.mTst, Mp.mOp, Mp.mIxV, Mp.mIx, Mp.mVar, Mp.mC, Mp.mNeg, Mp.slotD, Mp.heldAt, Mp.putAt, Mp.frz, Mp.frzS, Mp.frzL, Mp.bnd, Mp.mSet, Mp.mSub, Mp.mRet, Mp.mRetN, Mp.mSkip, Mp.mDrop, Mp.mCall1, Mp.mCallV, Mp.mCall, Mp.mTup, Mp.mLst, Mp.mCons, Mp.mNil, Mp.mFn, Mp.mFnX, Mp.mIf, Mp.gMod_pos, Mp.gFdv_pos, Mp.gMul_l, Mp.gMul_r, Mp.gPow_s, Mp.gAdd_i, Mp.gSub_i, Mp.gLt_i, Mp.gLe_i, Mp.gGt_i, Mp.gGe_i, Mp.gIx_l, Mp.gIx_t, Mp.gIx_k, Mp.gLen_l, Mp.gLen_t, Mp.gLen_k, Mp.setD, List.getElem?_cons_zero, List.getElem?_cons_succ, List.set_cons_zero, List.set_cons_succ, Option.bind_some, Option.map_some, Option.bind_none, Option.map_none, List.length_cons, List.length_nil, List.length_map, List.map_cons, List.map_nil, decide_true, decide_false, if_true, if_false, Bool.false_eq_true, Bool.and_true, Bool.true_and, Bool.or_true, Bool.true_or, Bool.and_false, Bool.false_and, Bool.or_false, Bool.false_or, Bool.not_true, Bool.not_false, Mp.atI0, Mp.atI1, Mp.atI2, Mp.atI3, Mp.atI4, Mp.ixN1, Mp.ixN2, Mp.ixN3, Mp.ixN4, List.replicate, List.cons_append, List.nil_append, List.append_eq, Nat.zero_add, Nat.reduceAdd, Int.reduceLE, Int.reduceLT, Int.reduceNeg, Nat.reducePow, Nat.reduceLT, Int.reduceToNat, Nat.reduceLeDiff, hc1, hc2, hn, hb, Int.reducePow])
   ·obtain ⟨r, d', x, h1, h2, h3, h4⟩ := draw_end cells (p + 1) 0 ((s * 69621 + n + (p + 1)) % 2147483629) c m (.v (.int n)) (by omega) (by omega) (Int.emod_nonneg _ (by omega)) (Int.emod_lt_of_pos _ (by omega)) hm hml
    refine ⟨r, d', x, h1, h2, h3, ?_⟩
    rw [<- h4]
    have hc1 := hc.1
    have hc2 := hc.2
    unfold bxD
    (simp -implicitDefEqProofs only [Mp.fnM, Mp.mSeq, Mp.mIfS, Mp.mAndB, Mp.mOrB, Mp.mNotB, Mp.mAndV, Mp.mOrV, Mp.mNotV, Mp.mTst, Mp.mOp, Mp.mIxV, Mp.mIx, Mp.mVar, Mp.mC, Mp.mNeg, Mp.slotD, Mp.heldAt, Mp.putAt, Mp.frz, Mp.frzS, Mp.frzL, Mp.bnd, Mp.mSet, Mp.mSub, Mp.mRet, Mp.mRetN, Mp.mSkip, Mp.mDrop, Mp.mCall1, Mp.mCallV, Mp.mCall, Mp.mTup, Mp.mLst, Mp.mCons, Mp.mNil, Mp.mFn, Mp.mFnX, Mp.mIf, Mp.gMod_pos, Mp.gFdv_pos, Mp.gMul_l, Mp.gMul_r, Mp.gPow_s, Mp.gAdd_i, Mp.gSub_i, Mp.gLt_i, Mp.gLe_i, Mp.gGt_i, Mp.gGe_i, Mp.gIx_l, Mp.gIx_t, Mp.gIx_k, Mp.gLen_l, Mp.gLen_t, Mp.gLen_k, Mp.setD, List.getElem?_cons_zero, List.getElem?_cons_succ, List.set_cons_zero, List.set_cons_succ, Option.bind_some, Option.map_some, Option.bind_none, Option.map_none, List.length_cons, List.length_nil, List.length_map, List.map_cons, List.map_nil, decide_true, decide_false, if_true, if_false, Bool.false_eq_true, Bool.and_true, Bool.true_and, Bool.or_true, Bool.true_or, Bool.and_false, Bool.false_and, Bool.or_false, Bool.false_or, Bool.not_true, Bool.not_false, Mp.atI0, Mp.atI1, Mp.atI2, Mp.atI3, Mp.atI4, Mp.ixN1, Mp.ixN2, Mp.ixN3, Mp.ixN4, List.replicate, List.cons_append, List.nil_append, List.append_eq, Nat.zero_add, Nat.reduceAdd, Int.reduceLE, Int.reduceLT, Int.reduceNeg, Nat.reducePow, Nat.reduceLT, Int.reduceToNat, Nat.reduceLeDiff, hc1, hc2, hn, hb, Int.reducePow])
  ·obtain ⟨r, d', x, h1, h2, h3, h4⟩ := draw_end cells p h s c m .no hp hh hs0 hs hm hml
   refine ⟨r, d', x, h1, h2, h3, ?_⟩
   rw [<- h4]
   by_cases hc1 : h < m
   ·have hc2 : ¬ p < (cells.length : Int) := fun z => hc ⟨hc1, z⟩
    unfold bxD
    (simp -implicitDefEqProofs only [Mp.fnM, Mp.mSeq, Mp.mIfS, Mp.mAndB, Mp.mOrB, Mp.mNotB, Mp.mAndV, Mp.mOrV, Mp.mNotV, Mp.mTst, Mp.mOp, Mp.mIxV, Mp.mIx, Mp.mVar, Mp.mC, Mp.mNeg, Mp.slotD, Mp.heldAt, Mp.putAt, Mp.frz, Mp.frzS, Mp.frzL, Mp.bnd, Mp.mSet, Mp.mSub, Mp.mRet, Mp.mRetN, Mp.mSkip, Mp.mDrop, Mp.mCall1, Mp.mCallV, Mp.mCall, Mp.mTup, Mp.mLst, Mp.mCons, Mp.mNil, Mp.mFn, Mp.mFnX, Mp.mIf, Mp.gMod_pos, Mp.gFdv_pos, Mp.gMul_l, Mp.gMul_r, Mp.gPow_s, Mp.gAdd_i, Mp.gSub_i, Mp.gLt_i, Mp.gLe_i, Mp.gGt_i, Mp.gGe_i, Mp.gIx_l, Mp.gIx_t, Mp.gIx_k, Mp.gLen_l, Mp.gLen_t, Mp.gLen_k, Mp.setD, List.getElem?_cons_zero, List.getElem?_cons_succ, List.set_cons_zero, List.set_cons_succ, Option.bind_some, Option.map_some, Option.bind_none, Option.map_none, List.length_cons, List.length_nil, List.length_map, List.map_cons, List.map_nil, decide_true, decide_false, if_true, if_false, Bool.false_eq_true, Bool.and_true, Bool.true_and, Bool.or_true, Bool.true_or, Bool.and_false, Bool.false_and, Bool.or_false, Bool.false_or, Bool.not_true, Bool.not_false, Mp.atI0, Mp.atI1, Mp.atI2, Mp.atI3, Mp.atI4, Mp.ixN1, Mp.ixN2, Mp.ixN3, Mp.ixN4, List.replicate, List.cons_append, List.nil_append, List.append_eq, Nat.zero_add, Nat.reduceAdd, Int.reduceLE, Int.reduceLT, Int.reduceNeg, Nat.reducePow, Nat.reduceLT, Int.reduceToNat, Nat.reduceLeDiff, hc1, hc2])
   ·unfold bxD
    (simp -implicitDefEqProofs only [Mp.fnM, Mp.mSeq, Mp.mIfS, Mp.mAndB, Mp.mOrB, Mp.mNotB, Mp.mAndV, Mp.mOrV, Mp.mNotV, Mp.mTst, Mp.mOp, Mp.mIxV, Mp.mIx, Mp.mVar, Mp.mC, Mp.mNeg, Mp.slotD, Mp.heldAt, Mp.putAt, Mp.frz, Mp.frzS, Mp.frzL, Mp.bnd, Mp.mSet, Mp.mSub, Mp.mRet, Mp.mRetN, Mp.mSkip, Mp.mDrop, Mp.mCall1, Mp.mCallV, Mp.mCall, Mp.mTup, Mp.mLst, Mp.mCons, Mp.mNil, Mp.mFn, Mp.mFnX, Mp.mIf, Mp.gMod_pos, Mp.gFdv_pos, Mp.gMul_l, Mp.gMul_r, Mp.gPow_s, Mp.gAdd_i, Mp.gSub_i, Mp.gLt_i, Mp.gLe_i, Mp.gGt_i, Mp.gGe_i, Mp.gIx_l, Mp.gIx_t, Mp.gIx_k, Mp.gLen_l, Mp.gLen_t, Mp.gLen_k, Mp.setD, List.getElem?_cons_zero, List.getElem?_cons_succ, List.set_cons_zero, List.set_cons_succ, Option.bind_some, Option.map_some, Option.bind_none, Option.map_none, List.length_cons, List.length_nil, List.length_map, List.map_cons, List.map_nil, decide_true, decide_false, if_true, if_false, Bool.false_eq_true, Bool.and_true, Bool.true_and, Bool.or_true, Bool.true_or, Bool.and_false, Bool.false_and, Bool.or_false, Bool.false_or, Bool.not_true, Bool.not_false, Mp.atI0, Mp.atI1, Mp.atI2, Mp.atI3, Mp.atI4, Mp.ixN1, Mp.ixN2, Mp.ixN3, Mp.ixN4, List.replicate, List.cons_append, List.nil_append, List.append_eq, Nat.zero_add, Nat.reduceAdd, Int.reduceLE, Int.reduceLT, Int.reduceNeg, Nat.reducePow, Nat.reduceLT, Int.reduceToNat, Nat.reduceLeDiff, hc1])
 obtain ⟨r, d', x, h1, h2, h3, h4⟩ := key
 refine ⟨r, d', x, h1, h2, h3, ?_⟩
 have e : m_draw [.box (bxD cells p h s c), .v (.int m)] = (match b_draw [.box (bxD cells p h s c), .v (.int m), .no, .no] with
  | .ok (.rt s ρ) => .ok (s, ρ)
  | .ok (.nx ρ) => .ok (.v .non, ρ)
  | .err c ρ => .err c ρ
  | _ => .stuck) := rfl
 rw [e, h4]
theorem cutD_map {ns : List Int} {lo hi : Option Int} : ∃ cells : List Int, cutD (ns.map D.int) lo hi = cells.map D.int :=
 ⟨(ns.drop (HT.sIx ns.length 0 lo)).take (HT.sIx ns.length ns.length hi - HT.sIx ns.length 0 lo), by
  unfold cutD
  rw [List.length_map, <- List.map_drop, <- List.map_take]⟩
def b_whole : ME -> MS := mRet (mAndV (mCall1 (gIsi "int") (mVar 0)) (mNotV (mCall1 (gIsi "bool") (mVar 0))))
def m_whole : MF := fnM 0 b_whole
def m_same : Nat -> MF
  | 0 => fun _ => .stuck
  | n + 1 => fnM 1 ((mSeq (mIfS (mTst (mOp gIsN (mVar 1) (mC .non)))
 (mRet (mOp gIsN (mVar 0) (mC .non)))
 mSkip) (mSeq (mIfS (mTst (mCall1 (gIsi "bool") (mVar 1)))
 (mRet (mAndV (mCall1 (gIsi "bool") (mVar 0)) (mOp gEq (mVar 0) (mVar 1))))
 mSkip) (mSeq (mIfS (mTst (mCall1 (gIsi "int") (mVar 1)))
 (mRet (mAndV (mFn m_whole (mCons (mVar 0) mNil)) (mOp gEq (mVar 0) (mVar 1))))
 mSkip) (mSeq (mIfS (mTst (mCall1 (gIsi "str") (mVar 1)))
 (mRet (mAndV (mCall1 (gIsi "str") (mVar 0)) (mOp gEq (mVar 0) (mVar 1))))
 mSkip) (mSeq (mIfS (mOrB (mTst (mOp gNe (mCall1 (gIsi "list") (mVar 1)) (mCall1 (gIsi "list") (mVar 0)))) (mTst (mOp gNe (mCall1 (gIsi "tuple") (mVar 1)) (mCall1 (gIsi "tuple") (mVar 0)))))
 (mRet (mC (.bl false)))
 mSkip) (mRet (mAndV (mOp gEq (mCallV gLen 0) (mCallV gLen 1)) (mCall1 gAll (mLc (mRng1 (mCons (mCallV gLen 1) mNil)) (tgName 2) mYes (mFn (m_same n) (mCons (mIxV 0 (mVar 2)) (mCons (mIxV 1 (mVar 2)) mNil))) [2]))))))))))
theorem kit1 : L2.kitB "int" "bool" = some false := by decide +kernel
theorem kit2 : L2.kitB "int" "int" = some true := by decide +kernel
theorem kit7 : L2.kitB "tuple" "tuple" = some true := by decide +kernel
theorem kit14 : L2.kitB "str" "bool" = some false := by decide +kernel
theorem kit15 : L2.kitB "str" "int" = some false := by decide +kernel
theorem kit16 : L2.kitB "str" "str" = some true := by decide +kernel
theorem isi {T a : String} {b : Bool} {d : D} (h1 : tyD d = some a) (h2 : L2.kitB a T = some b) : gIsi T d = some (.v (.bl b)) := by
 unfold gIsi
 rw [h1]
 simp [h2]
theorem isi_ib {i : Int} : gIsi "bool" (.int i) = some (.v (.bl false)) := isi rfl kit1
theorem isi_ii {i : Int} : gIsi "int" (.int i) = some (.v (.bl true)) := isi rfl kit2
theorem isi_tt {xs : List D} : gIsi "tuple" (.tup xs) = some (.v (.bl true)) := isi rfl kit7
theorem eq_i {i j : Int} : gEq (.int i) (.int j) = some (.v (.bl (decide (i = j)))) := rfl
theorem isn_i {i : Int} : gIsN (.int i) .non = some (.v (.bl false)) := rfl
theorem whole_int {i : Int} : m_whole [.v (.int i)] = .ok (.v (.bl true), [.v (.int i)]) := by
 unfold m_whole b_whole
 (simp -implicitDefEqProofs only [Mp.fnM, Mp.mSeq, Mp.mIfS, Mp.mAndB, Mp.mOrB, Mp.mNotB, Mp.mAndV, Mp.mOrV, Mp.mNotV, Mp.mTst, Mp.mOp, Mp.mIxV, Mp.mIx, Mp.mVar, Mp.mC, Mp.mNeg, Mp.slotD, Mp.heldAt, Mp.putAt, Mp.frz, Mp.frzS, Mp.frzL, Mp.bnd, Mp.mSet, Mp.mSub, Mp.mRet, Mp.mRetN, Mp.mSkip, Mp.mDrop, Mp.mCall1, Mp.mCallV, Mp.mCall, Mp.mTup, Mp.mLst, Mp.mCons, Mp.mNil, Mp.mFn, Mp.mFnX, Mp.mIf, Mp.gMod_pos, Mp.gFdv_pos, Mp.gMul_l, Mp.gMul_r, Mp.gPow_s, Mp.gAdd_i, Mp.gSub_i, Mp.gLt_i, Mp.gLe_i, Mp.gGt_i, Mp.gGe_i, Mp.gIx_l, Mp.gIx_t, Mp.gIx_k, Mp.gLen_l, Mp.gLen_t, Mp.gLen_k, Mp.setD, List.getElem?_cons_zero, List.getElem?_cons_succ, List.set_cons_zero, List.set_cons_succ, Option.bind_some, Option.map_some, Option.bind_none, Option.map_none, List.length_cons, List.length_nil, List.length_map, List.map_cons, List.map_nil, decide_true, decide_false, if_true, if_false, Bool.false_eq_true, Bool.and_true, Bool.true_and, Bool.or_true, Bool.true_or, Bool.and_false, Bool.false_and, Bool.or_false, Bool.false_or, Bool.not_true, Bool.not_false, Mp.atI0, Mp.atI1, Mp.atI2, Mp.atI3, Mp.atI4, Mp.ixN1, Mp.ixN2, Mp.ixN3, Mp.ixN4, List.replicate, List.cons_append, List.nil_append, List.append_eq, Nat.zero_add, Nat.reduceAdd, Int.reduceLE, Int.reduceLT, Int.reduceNeg, Nat.reducePow, Nat.reduceLT, Int.reduceToNat, Nat.reduceLeDiff, isi_ii, isi_ib])
theorem same_int {n : Nat} {i j : Int} : ∃ x, m_same (n + 1) [.v (.int i), .v (.int j)] = .ok (.v (.bl (decide (i = j))), x) := by
 refine ⟨[.v (.int i), .v (.int j), .no], ?_⟩
 unfold m_same
 (simp -implicitDefEqProofs only [Mp.fnM, Mp.mSeq, Mp.mIfS, Mp.mAndB, Mp.mOrB, Mp.mNotB, Mp.mAndV, Mp.mOrV, Mp.mNotV, Mp.mTst, Mp.mOp, Mp.mIxV, Mp.mIx, Mp.mVar, Mp.mC, Mp.mNeg, Mp.slotD, Mp.heldAt, Mp.putAt, Mp.frz, Mp.frzS, Mp.frzL, Mp.bnd, Mp.mSet, Mp.mSub, Mp.mRet, Mp.mRetN, Mp.mSkip, Mp.mDrop, Mp.mCall1, Mp.mCallV, Mp.mCall, Mp.mTup, Mp.mLst, Mp.mCons, Mp.mNil, Mp.mFn, Mp.mFnX, Mp.mIf, Mp.gMod_pos, Mp.gFdv_pos, Mp.gMul_l, Mp.gMul_r, Mp.gPow_s, Mp.gAdd_i, Mp.gSub_i, Mp.gLt_i, Mp.gLe_i, Mp.gGt_i, Mp.gGe_i, Mp.gIx_l, Mp.gIx_t, Mp.gIx_k, Mp.gLen_l, Mp.gLen_t, Mp.gLen_k, Mp.setD, List.getElem?_cons_zero, List.getElem?_cons_succ, List.set_cons_zero, List.set_cons_succ, Option.bind_some, Option.map_some, Option.bind_none, Option.map_none, List.length_cons, List.length_nil, List.length_map, List.map_cons, List.map_nil, decide_true, decide_false, if_true, if_false, Bool.false_eq_true, Bool.and_true, Bool.true_and, Bool.or_true, Bool.true_or, Bool.and_false, Bool.false_and, Bool.or_false, Bool.false_or, Bool.not_true, Bool.not_false, Mp.atI0, Mp.atI1, Mp.atI2, Mp.atI3, Mp.atI4, Mp.ixN1, Mp.ixN2, Mp.ixN3, Mp.ixN4, List.replicate, List.cons_append, List.nil_append, List.append_eq, Nat.zero_add, Nat.reduceAdd, Int.reduceLE, Int.reduceLT, Int.reduceNeg, Nat.reducePow, Nat.reduceLT, Int.reduceToNat, Nat.reduceLeDiff, isi_ii, isi_ib, isn_i, whole_int, eq_i])
theorem rngL_zero {lo : Int} : rngL lo 0 = [] := rfl
theorem rngL_succ {lo : Int} {n : Nat} : rngL lo (n + 1) = .int lo :: rngL (lo + 1) n := by
 unfold rngL
 rw [List.range_succ_eq_map, List.map_cons, List.map_map]
 congr 1
 ·simp
 ·apply List.map_congr_left
  intro i _
  simp only [Function.comp]
  congr 1
  omega
theorem rngL_len {lo : Int} {n : Nat} : (rngL lo n).length = n := by unfold rngL; simp
theorem gAll_rep {k : Nat} : gAll (.lst (List.replicate k (.bl true))) = some (.v (.bl true)) := by
 have e : ∀ k, bools? (List.replicate k (D.bl true)) = some (List.replicate k true) := by
  intro k
  induction k with
  | zero => rfl
  | succ k ih => rw [List.replicate_succ, List.replicate_succ, bools?, ih] <;> rfl
 show Option.map (fun bs : List Bool => Slot.v (D.bl (bs.all id))) (bools? (List.replicate k (D.bl true))) = _
 rw [e]
 simp
theorem atI_ofNat {xs : List D} {i : Nat} {x : D} (h : xs[i]? = some x) : atI xs ((i : Nat) : Int) = some x := atI_nat h
abbrev lcSame (n : Nat) := lcLoop (tgName 2) mYes (mFn (m_same n) (mCons (mIxV 0 (mVar 2)) (mCons (mIxV 1 (mVar 2)) mNil))) [2]
theorem same_loop {n : Nat} {X Y : D} {xs ys : List D} (hX : ∀ i : Int, gIx X (.int i) = atI xs i) (hY : ∀ i : Int, gIx Y (.int i) = atI ys i) (hl : xs.length = ys.length) (h : ∀ (i : Nat) (x y : D), xs[i]? = some x -> ys[i]? = some y -> ∃ ρ, m_same n [.v x, .v y] = .ok (.v (.bl true), ρ)) :
    ∀ (k a : Nat) (acc : List D) (s : Slot), a + k ≤ xs.length -> ∃ s', lcSame n (rngL a k) acc [.v X, .v Y, s] = .ok (acc ++ List.replicate k (.bl true), [.v X, .v Y, s'])
  | 0, a, acc, s, _ => ⟨s, by simp [lcSame, rngL_zero, lcLoop]⟩
  | k + 1, a, acc, s, hk => by
    have hx : xs[a]? = some xs[a] := List.getElem?_eq_getElem (by omega)
    have hy : ys[a]? = some ys[a] := List.getElem?_eq_getElem (by omega)
    obtain ⟨ρ, hr⟩ := h a _ _ hx hy
    obtain ⟨s', hs⟩ := same_loop hX hY hl h k (a + 1) (acc ++ [.bl true]) .no (by omega)
    refine ⟨s', ?_⟩
    rw [rngL_succ]
    have e1 : ((a : Int) + 1) = ((a + 1 : Nat) : Int) := by omega
    rw [e1]
    have step : lcSame n (.int (a : Int) :: rngL ((a + 1 : Nat) : Int) k) acc [.v X, .v Y, s] = lcSame n (rngL ((a + 1 : Nat) : Int) k) (acc ++ [.bl true]) [.v X, .v Y, .no] := by
      have hx2 := atI_ofNat hx
      have hy2 := atI_ofNat hy
      simp only [lcSame, lcLoop, tgName, mYes, wipeM]
      (simp -implicitDefEqProofs only [Mp.fnM, Mp.mSeq, Mp.mIfS, Mp.mAndB, Mp.mOrB, Mp.mNotB, Mp.mAndV, Mp.mOrV, Mp.mNotV, Mp.mTst, Mp.mOp, Mp.mIxV, Mp.mIx, Mp.mVar, Mp.mC, Mp.mNeg, Mp.slotD, Mp.heldAt, Mp.putAt, Mp.frz, Mp.frzS, Mp.frzL, Mp.bnd, Mp.mSet, Mp.mSub, Mp.mRet, Mp.mRetN, Mp.mSkip, Mp.mDrop, Mp.mCall1, Mp.mCallV, Mp.mCall, Mp.mTup, Mp.mLst, Mp.mCons, Mp.mNil, Mp.mFn, Mp.mFnX, Mp.mIf, Mp.gMod_pos, Mp.gFdv_pos, Mp.gMul_l, Mp.gMul_r, Mp.gPow_s, Mp.gAdd_i, Mp.gSub_i, Mp.gLt_i, Mp.gLe_i, Mp.gGt_i, Mp.gGe_i, Mp.gIx_l, Mp.gIx_t, Mp.gIx_k, Mp.gLen_l, Mp.gLen_t, Mp.gLen_k, Mp.setD, List.getElem?_cons_zero, List.getElem?_cons_succ, List.set_cons_zero, List.set_cons_succ, Option.bind_some, Option.map_some, Option.bind_none, Option.map_none, List.length_cons, List.length_nil, List.length_map, List.map_cons, List.map_nil, decide_true, decide_false, if_true, if_false, Bool.false_eq_true, Bool.and_true, Bool.true_and, Bool.or_true, Bool.true_or, Bool.and_false, Bool.false_and, Bool.or_false, Bool.false_or, Bool.not_true, Bool.not_false, Mp.atI0, Mp.atI1, Mp.atI2, Mp.atI3, Mp.atI4, Mp.ixN1, Mp.ixN2, Mp.ixN3, Mp.ixN4, List.replicate, List.cons_append, List.nil_append, List.append_eq, Nat.zero_add, Nat.reduceAdd, Int.reduceLE, Int.reduceLT, Int.reduceNeg, Nat.reducePow, Nat.reduceLT, Int.reduceToNat, Nat.reduceLeDiff, hX, hY, hx2, hy2, hr])
    rw [step, hs, List.append_assoc]
    rfl
theorem smI_nat {k : Nat} (h : k < 1000000) : smI (k : Int) = true := Nat.ble_eq_true_of_le (by show ((k : Nat) : Int).natAbs ≤ _; omega)
theorem same_lc {n : Nat} {X Y : D} {xs ys : List D} (hX : ∀ i : Int, gIx X (.int i) = atI xs i) (hY : ∀ i : Int, gIx Y (.int i) = atI ys i) (hL : gLen Y = some (.v (.int (ys.length : Int)))) (hl : xs.length = ys.length) (hz : xs.length < 1000000) (h : ∀ (i : Nat) (x y : D), xs[i]? = some x -> ys[i]? = some y -> ∃ ρ, m_same n [.v x, .v y] = .ok (.v (.bl true), ρ)) :
    mLc (mRng1 (mCons (mCallV gLen 1) mNil)) (tgName 2) mYes (mFn (m_same n) (mCons (mIxV 0 (mVar 2)) (mCons (mIxV 1 (mVar 2)) mNil))) [2] [.v X, .v Y, .no] = .ok (.own (.lst (List.replicate ys.length (.bl true))), [.v X, .v Y, .no]) := by
  obtain ⟨s', hs⟩ := same_loop hX hY hl h ys.length 0 [] .no (by omega)
  have hsm := smI_nat (k := ys.length) (by omega)
  have hlen : (rngL 0 ys.length).length < 1000000 := by rw [rngL_len]; omega
  have e0 : ((0 : Nat) : Int) = 0 := rfl
  rw [e0, List.nil_append] at hs
  have hr : mRng1 (mCons (mCallV gLen 1) mNil) [.v X, .v Y, .no] = .ok (rngL 0 ys.length, [.v X, .v Y, .no]) := by
    (simp -implicitDefEqProofs only [Mp.fnM, Mp.mSeq, Mp.mIfS, Mp.mAndB, Mp.mOrB, Mp.mNotB, Mp.mAndV, Mp.mOrV, Mp.mNotV, Mp.mTst, Mp.mOp, Mp.mIxV, Mp.mIx, Mp.mVar, Mp.mC, Mp.mNeg, Mp.slotD, Mp.heldAt, Mp.putAt, Mp.frz, Mp.frzS, Mp.frzL, Mp.bnd, Mp.mSet, Mp.mSub, Mp.mRet, Mp.mRetN, Mp.mSkip, Mp.mDrop, Mp.mCall1, Mp.mCallV, Mp.mCall, Mp.mTup, Mp.mLst, Mp.mCons, Mp.mNil, Mp.mFn, Mp.mFnX, Mp.mIf, Mp.gMod_pos, Mp.gFdv_pos, Mp.gMul_l, Mp.gMul_r, Mp.gPow_s, Mp.gAdd_i, Mp.gSub_i, Mp.gLt_i, Mp.gLe_i, Mp.gGt_i, Mp.gGe_i, Mp.gIx_l, Mp.gIx_t, Mp.gIx_k, Mp.gLen_l, Mp.gLen_t, Mp.gLen_k, Mp.setD, List.getElem?_cons_zero, List.getElem?_cons_succ, List.set_cons_zero, List.set_cons_succ, Option.bind_some, Option.map_some, Option.bind_none, Option.map_none, List.length_cons, List.length_nil, List.length_map, List.map_cons, List.map_nil, decide_true, decide_false, if_true, if_false, Bool.false_eq_true, Bool.and_true, Bool.true_and, Bool.or_true, Bool.true_or, Bool.and_false, Bool.false_and, Bool.or_false, Bool.false_or, Bool.not_true, Bool.not_false, Mp.atI0, Mp.atI1, Mp.atI2, Mp.atI3, Mp.atI4, Mp.ixN1, Mp.ixN2, Mp.ixN3, Mp.ixN4, List.replicate, List.cons_append, List.nil_append, List.append_eq, Nat.zero_add, Nat.reduceAdd, Int.reduceLE, Int.reduceLT, Int.reduceNeg, Nat.reducePow, Nat.reduceLT, Int.reduceToNat, Nat.reduceLeDiff, mRng1, hL, hsm, Int.toNat_natCast])
  unfold mLc
  rw [hr]
  show (if ([2].all (plain [.v X, .v Y, .no]) && decide ((rngL 0 ys.length).length < 1000000)) = true then (match lcSame n (rngL 0 ys.length) [] [.v X, .v Y, .no] with
    | Res.ok (acc, ρ1) => Res.ok (Slot.own (D.lst acc), putBack [.v X, .v Y, .no] ρ1 [2])
    | _ => Res.stuck) else Res.stuck) = _
  rw [hs, decide_eq_true hlen]
  rfl
theorem bnd_ok {α β : Type} {a : α} {f : α -> Res β} : bnd (.ok a) f = f a := rfl
theorem call1K_own {g : D -> Option Slot} {d : D} {ρ : ME} : call1K g (.ok (.own d, ρ)) = resK (g d) ρ := rfl
theorem resK_some {s : Slot} {ρ : ME} : resK (some s) ρ = .ok (s, ρ) := rfl
theorem finK_rt {s : Slot} {ρ : ME} : finK (.ok (.rt s ρ)) = .ok (s, ρ) := rfl
theorem same_tup {n : Nat} {xs ys : List D} (hl : xs.length = ys.length) (hz : xs.length < 1000000) (h : ∀ (i : Nat) (x y : D), xs[i]? = some x -> ys[i]? = some y -> ∃ ρ, m_same n [.v x, .v y] = .ok (.v (.bl true), ρ)) :
    ∃ ρ, m_same (n + 1) [.v (.tup xs), .v (.tup ys)] = .ok (.v (.bl true), ρ) := by
  have hlc := same_lc (X := .tup xs) (Y := .tup ys) (fun _ => rfl) (fun _ => rfl) rfl hl hz h
  have e2 : decide ((xs.length : Int) = (ys.length : Int)) = true := by rw [hl]; simp
  have e1 : m_same (n + 1) [.v (.tup xs), .v (.tup ys)] = finK (bnd (if decide ((xs.length : Int) = (ys.length : Int)) = true then mCall1 gAll (mLc (mRng1 (mCons (mCallV gLen 1) mNil)) (tgName 2) mYes (mFn (m_same n) (mCons (mIxV 0 (mVar 2)) (mCons (mIxV 1 (mVar 2)) mNil))) [2]) [.v (.tup xs), .v (.tup ys), .no] else .ok (.v (.bl false), [.v (.tup xs), .v (.tup ys), .no])) fun p => .ok (.rt p.1 p.2)) := by
    kernel_rfl
  refine ⟨[.v (.tup xs), .v (.tup ys), .no], ?_⟩
  rw [e1, e2]
  rw [if_pos rfl, r_mCall1, hlc, call1K_own, gAll_rep, resK_some, bnd_ok, finK_rt]
theorem same_lst {n : Nat} {xs ys : List D} (hl : xs.length = ys.length) (hz : xs.length < 1000000) (h : ∀ (i : Nat) (x y : D), xs[i]? = some x -> ys[i]? = some y -> ∃ ρ, m_same n [.v x, .v y] = .ok (.v (.bl true), ρ)) :
    ∃ ρ, m_same (n + 1) [.v (.lst xs), .v (.lst ys)] = .ok (.v (.bl true), ρ) := by
  have hlc := same_lc (X := .lst xs) (Y := .lst ys) (fun _ => rfl) (fun _ => rfl) rfl hl hz h
  have e2 : decide ((xs.length : Int) = (ys.length : Int)) = true := by rw [hl]; simp
  have e1 : m_same (n + 1) [.v (.lst xs), .v (.lst ys)] = finK (bnd (if decide ((xs.length : Int) = (ys.length : Int)) = true then mCall1 gAll (mLc (mRng1 (mCons (mCallV gLen 1) mNil)) (tgName 2) mYes (mFn (m_same n) (mCons (mIxV 0 (mVar 2)) (mCons (mIxV 1 (mVar 2)) mNil))) [2]) [.v (.lst xs), .v (.lst ys), .no] else .ok (.v (.bl false), [.v (.lst xs), .v (.lst ys), .no])) fun p => .ok (.rt p.1 p.2)) := by
    kernel_rfl
  refine ⟨[.v (.lst xs), .v (.lst ys), .no], ?_⟩
  rw [e1, e2]
  rw [if_pos rfl, r_mCall1, hlc, call1K_own, gAll_rep, resK_some, bnd_ok, finK_rt]
abbrev ETab := List (Str × List Str)
def isaB (T : ETab) (c d : Str) : Bool := ((T.lookup c).getD []).contains d
abbrev veMro : List Value := [.type "ValueError", .type "Exception", .type "BaseException", .type "object"]
structure ExOne (G : Gd) (T : ETab) (c : Str) (l : List Str) (C : Addr) : Prop where
 g : G.mg c = some (.ref C)
 k : PySem.W.keepIn G.K (.ref C) = true
 x : l.contains ("__init__" : Str) = false -> PySem.W.excIn G.K C veMro "ValueError.__new__" = true
 b : PySem.W.subIn G.K (.ref C) (.type "BaseException") = some true
 t : PySem.W.typeIn G.K (.ref C) = some (.type "type")
 c : ExcC G.K C
 v : PySem.W.kitOne G.K (.ref C) (.type "ValueError") = some true
 o : ∀ d l2, T.lookup d = some l2 -> ∃ D, G.mg d = some (.ref D) /\ PySem.W.exmOne G.K (.ref C) (.ref D) = some (l.contains d) /\ PySem.W.kitOne G.K (.ref C) (.ref D) = some (l.contains d)
def ExF (G : Gd) (T : ETab) : Prop := ∀ c l, T.lookup c = some l -> ∃ C, ExOne G T c l C
mutual
def noX : D -> Bool
 | .exn => false
 | .exf _ _ => false
 | .tup ds => noXs ds
 | .ktp ds => noXs ds
 | .lst ds => noXs ds
 | .kdc _ ds => noXs ds
 | .dK _ ds => noXs ds
 | .dT _ ds => noXs ds
 | .ins _ _ ds => noXs ds
 | .scr ds => noXs ds
 | .non => true
 | .bl _ => true
 | .int _ => true
 | .str _ => true
def noXs : List D -> Bool
 | [] => true
 | d :: ds => noX d && noXs ds
end
def noXP : Pc -> Bool
 | .d x => noX x
 | .p _ => true
def noXC : Cell -> Bool
 | .d x => noX x
 | .lst ps => ps.all noXP
 | .dK _ ps => ps.all noXP
 | .ins _ _ ps => ps.all noXP
 | .tup ps => ps.all noXP
 | .dead => true
def noXS : Slot -> Bool
 | .no => true
 | .v d => noX d
 | .own d => noX d
 | .box d => noX d
 | .pt _ => true
 | .bor _ d => noX d
 | .hp cs => cs.all noXC
abbrev Gd.up (G : Gd) (y : Option (Addr × Option Addr)) : Gd := ⟨G.P, G.w, G.K, G.mg, y⟩
mutual
theorem Rep.xa {G : Gd} {y : Option (Addr × Option Addr)} {S : Hp} : ∀ {v : V} {d : D}, (noX d = true \/ G.xa = none) -> Rep G S v d -> Rep (G.up y) S v d
 | v, .non, n, r => by simpa only [Rep] using r
 | v, .bl b, n, r => by simpa only [Rep] using r
 | v, .int i, n, r => by simpa only [Rep] using r
 | v, .str x, n, r => by simpa only [Rep] using r
 | v, .tup ds, n, r => by
  simp only [Rep, noX] at r n ⊢
  obtain ⟨a, vs, e, s, q⟩ := r
  exact ⟨a, vs, e, s, Reps.xa n q⟩
 | v, .ktp ds, n, r => by
  simp only [Rep, noX] at r n ⊢
  obtain ⟨a, vs, e, s, q⟩ := r
  exact ⟨a, vs, e, s, Reps.xa n q⟩
 | v, .lst ds, n, r => by
  simp only [Rep, noX] at r n ⊢
  obtain ⟨a, vs, e, s, q⟩ := r
  exact ⟨a, vs, e, s, Reps.xa n q⟩
 | v, .kdc ks ds, n, r => by
  simp only [Rep, noX] at r n ⊢
  obtain ⟨a, vs, e, s, l, q⟩ := r
  exact ⟨a, vs, e, s, l, Reps.xa n q⟩
 | v, .dK ks ds, n, r => by
  simp only [Rep, noX] at r n ⊢
  obtain ⟨a, vs, e, s, l, q⟩ := r
  exact ⟨a, vs, e, s, l, Reps.xa n q⟩
 | v, .dT ks ds, n, r => by
  simp only [Rep, noX] at r n ⊢
  obtain ⟨a, vs, e, s, l, q⟩ := r
  exact ⟨a, vs, e, s, l, Reps.xa n q⟩
 | v, .ins C ns ds, n, r => by
  simp only [Rep, noX] at r n ⊢
  obtain ⟨a, C, dx, vs, e, m, s, l, q⟩ := r
  exact ⟨a, C, dx, vs, e, m, s, l, Reps.xa n q⟩
 | v, .scr ds, n, r => by
  simp only [Rep, noX] at r n ⊢
  obtain ⟨a, vs, e, s, q⟩ := r
  exact ⟨a, vs, e, s, Reps.xa n q⟩
 | v, .exn, n, r => by
  simp only [Rep, noX] at r n
  rcases n with n | n
  ·cases n
  ·obtain ⟨a, e, _⟩ := r
   rw [n] at e; cases e
 | v, .exf ns ds, n, r => by
  simp only [Rep, noX] at r n
  rcases n with n | n
  ·cases n
  ·obtain ⟨a, d, us, e, _⟩ := r
   rw [n] at e; cases e
theorem Reps.xa {G : Gd} {y : Option (Addr × Option Addr)} {S : Hp} : ∀ {vs : List V} {ds : List D}, (noXs ds = true \/ G.xa = none) -> Reps G S vs ds -> Reps (G.up y) S vs ds
 | vs, [], n, r => by simpa only [Reps] using r
 | vs, d :: ds, n, r => by
  simp only [Reps, noXs, Bool.and_eq_true] at r n ⊢
  obtain ⟨v, vr, e, s, q⟩ := r
  exact ⟨v, vr, e, Rep.xa (n.imp And.left id) s, Reps.xa (n.imp And.right id) q⟩
end
theorem RepO.xa {G : Gd} {y : Option (Addr × Option Addr)} {S : Hp} {o : HO} {d : D} (n : noX d = true \/ G.xa = none) (r : RepO G S o d) : RepO (G.up y) S o d := by
 cases d with
 | lst ds => obtain ⟨vs, e, q⟩ := r; simp only [noX] at n; exact ⟨vs, e, q.xa n⟩
 | dK ks ds => obtain ⟨vs, e, l, q⟩ := r; simp only [noX] at n; exact ⟨vs, e, l, q.xa n⟩
 | dT ks ds => obtain ⟨vs, e, l, q⟩ := r; simp only [noX] at n; exact ⟨vs, e, l, q.xa n⟩
 | ins c ns ds => obtain ⟨C, dx, vs, m, e, l, q⟩ := r; simp only [noX] at n; exact ⟨C, dx, vs, m, e, l, q.xa n⟩
 | _ => exact r.elim
theorem RepPs.xa {G : Gd} {y : Option (Addr × Option Addr)} {S : Hp} {α : List Addr} : ∀ {vs : List V} {ps : List Pc}, (ps.all noXP = true \/ G.xa = none) -> RepPs G S α vs ps -> RepPs (G.up y) S α vs ps
 | vs, [], n, r => r
 | vs, p :: ps, n, r => by
  obtain ⟨v, vr, e, s, q⟩ := r
  have n1 : noXP p = true \/ G.xa = none := n.imp (fun z => by rw [List.all_cons, Bool.and_eq_true] at z; exact z.1) id
  have n2 : ps.all noXP = true \/ G.xa = none := n.imp (fun z => by rw [List.all_cons, Bool.and_eq_true] at z; exact z.2) id
  refine ⟨v, vr, e, ?_, RepPs.xa n2 q⟩
  cases p with
  | d x => exact Rep.xa n1 s
  | p k => exact s
theorem RepC.xa {G : Gd} {y : Option (Addr × Option Addr)} {S : Hp} {α : List Addr} {o : HO} {c : Cell} (n : noXC c = true \/ G.xa = none) (r : RepC G S α o c) : RepC (G.up y) S α o c := by
 cases c with
 | d x => exact RepO.xa n r
 | lst ps => obtain ⟨vs, e, q⟩ := r; exact ⟨vs, e, q.xa n⟩
 | dK ks ps => obtain ⟨vs, e, l, q⟩ := r; exact ⟨vs, e, l, q.xa n⟩
 | ins c ns ps => obtain ⟨C, dx, vs, m, e, l, q⟩ := r; exact ⟨C, dx, vs, m, e, l, q.xa n⟩
 | tup ps => obtain ⟨vs, e, q⟩ := r; exact ⟨vs, e, q.xa n⟩
 | dead => exact r
theorem Ok.xa {G : Gd} {y : Option (Addr × Option Addr)} {B : BxA} {Fr S : Hp} {ρ : ME} {σ : SV} {H : Hp} (o : Ok G B Fr S ρ σ H) (n : ρ.all noXS = true \/ G.xa = none) : Ok (G.up y) B Fr S ρ σ H := by
 have at_ : ∀ {i : Nat} {s : Slot}, ρ[i]? = some s -> noXS s = true \/ G.xa = none := fun {i s} e => n.imp (fun h => List.all_eq_true.mp h s (List.mem_of_getElem? e)) id
 refine ⟨o.fr, o.st, o.len, fun i d e => ?_, fun i s d e hd => ?_, o.bx, o.inj, ⟨fun i cs e => ?_, o.ce.un⟩⟩
 ·obtain ⟨x, q, r⟩ := o.vs i d e
  exact ⟨x, q, r.xa (at_ e)⟩
 ·obtain ⟨a, u, q1, q2, q3, q4⟩ := o.ow i s d e hd
  have m : noX d = true \/ G.xa = none := by
   cases s with
   | own z => cases hd; exact at_ e
   | box z => cases hd; exact at_ e
   | bor j z => cases hd; exact at_ e
   | no => cases hd
   | v z => cases hd
   | pt z => cases hd
   | hp z => cases hd
  exact ⟨a, u, q1, q2, q3.xa m, q4⟩
 ·obtain ⟨α, c⟩ := o.ce.ex i cs e
  refine ⟨α, c.pre, c.len, fun k c' e1 e2 => ?_, fun k ps e1 => ?_, c.one, c.off, c.pt, c.bo⟩
  rotate_left
  ·obtain ⟨a, vs, q1, q2, q3⟩ := c.tu k ps e1
   exact ⟨a, vs, q1, q2, q3.xa ((at_ e).imp (fun h => List.all_eq_true.mp h (.tup ps) (List.mem_of_getElem? e1)) id)⟩
  obtain ⟨a, u, q1, q2, q3, q4⟩ := c.at_ k c' e1 e2
  have m : noXC c' = true \/ G.xa = none := (at_ e).imp (fun h => List.all_eq_true.mp h c' (List.mem_of_getElem? e1)) id
  exact ⟨a, u, q1, q2, q3.xa m, q4⟩
def allX (i : Nat) (ρ : ME) : Bool := (ρ.set i .no).all noXS
def endX (i : Nat) (r : MS) : MS := match r with
 | .ok (.nx ρ) => if allX i ρ then .ok (.nx (ρ.set i .no)) else .stuck
 | .ok (.rt s ρ) => if allX i ρ && noXS s then .ok (.rt s (ρ.set i .no)) else .stuck
 | .ok (.bk ρ) => if allX i ρ then .ok (.bk (ρ.set i .no)) else .stuck
 | .ok (.ct ρ) => if allX i ρ then .ok (.ct (ρ.set i .no)) else .stuck
 | _ => .stuck
def mTryAs (T : ETab) (h : Str) (i : Nat) (b : ME -> MS) (su : Str -> ME -> MS) : ME -> MS := fun ρ => match b ρ with
 | .err c ρ1 => if (T.lookup c.nm).isSome then (if isaB T c.nm h then endX i (su c.nm (ρ1.set i (.v c.dat))) else .err c ρ1) else .stuck
 | r => r
section
variable {X : Cx} {T : ETab} {x n : Str} {i : Nat} {body suite : List Stmt} {b₀ : Stmt} {np pos pos' : Pos} {mb : ME -> MS} {su : Str -> ME -> MS} {Wout : WX} {lx : List Str}
theorem isaB_eq {c d : Str} {l : List Str} (h : T.lookup c = some l) : isaB T c d = l.contains d := by
 unfold isaB; rw [h]; rfl
theorem st_tryAs (i : Nat) (hN : X.N.Nodup) (hi : X.N[i]? = some n) (hln : X.env.kindOf n = some .local) (ef : ExF (gOf X) T) (hx : T.lookup x = some lx) (hg : Gl X x) (tk : Takes X Wout)
    (hb : ∀ (W : WX) (pn : List (Addr × Obj)) (xe : Value -> Shared -> Prop), Takes (X.tr pn xe) W -> PassesOwn (model X.prog X.w) X.A X.env xe -> PSs (X.tr pn xe) body (sM (gOf X) W mb))
    (hsu : ∀ (a : Addr) (oe : Obj) (pn : List (Addr × Obj)) (c : Str) (l : List Str) (C : Addr) (dd : Option Addr), ExOne (gOf X) T c l C -> T.lookup c = some l -> Zc (.ref C) dd oe -> (∃ vs, oe.data = .fields vs) ->
      PSs (X.suite a ((a, oe) :: pn)) (b₀ :: suite) (sM (gOf (X.suite a ((a, oe) :: pn))) (fun _ _ _ _ => False) (su c)))
    (hc : X.calm = true := by rfl) (hs : X.stack = X.env :: X.outer := by rfl) (hf : X.env.frame = some X.env.locals := by rfl) (hdb : (x == ("__debug__" : Str)) = false := by decide) :
    PS X (.Try body [.ExceptHandler (some (.Name x np)) (some n) (b₀ :: suite) pos'] [] [] pos) (sM (gOf X) Wout (mTryAs T x i mb su)) := by
  obtain ⟨D0, fx⟩ := ef x lx hx
  let ts : Addr -> Value -> Option Addr -> TS := fun a cls d D σ H => ∃ c l C, cls = .ref C /\ ExOne (gOf X) T c l C /\ T.lookup c = some l /\ sM ((gOf X).up (some (a, d))) (fun _ _ _ _ => False) (su c) D σ H
  have g0 : (gOf X).xa = none := by show xaOf X.calm X.A.handled X.pn = none; rw [hc]; rfl
  have gs : ∀ (a : Addr) (oe : Obj) (pn : List (Addr × Obj)) (d : Option Addr), oe.dict = d -> gOf (X.suite a ((a, oe) :: pn)) = (gOf X).up (some (a, d)) := fun a oe pn d hd => by
    show (⟨X.prog, X.w, X.K, X.mg, some (a, (((a, oe) :: pn).lookup a).bind (·.dict))⟩ : Gd) = ⟨X.prog, X.w, X.K, X.mg, some (a, d)⟩
    rw [List.lookup_cons, beq_self_eq_true]
    show (⟨X.prog, X.w, X.K, X.mg, some (a, oe.dict)⟩ : Gd) = _
    rw [hd]
  refine PS.imp (ps_try_as (i := i) (tb := fun W => sM (gOf X) W mb) (ts := ts) (c := .ref D0) hs hf hN hi hln ⟨hg, hdb, .inl fx.g⟩ tk hb (fun a oe cls d pn hz hfl => ⟨fun pins s σ H D I h => ?_⟩)) fun D σ H h => ?_
  · obtain ⟨c, l, C, rfl, e1, lc, q⟩ := h
    exact (hsu a oe pn c l C _ e1 lc hz hfl).run pins s σ H D I (by rw [gs a oe pn _ hz.2]; exact q)
  · obtain ⟨B, Fr, S, ρ, o, k⟩ := h
    refine ⟨B, Fr, S, ρ, o, ?_⟩
    unfold mTryAs at k
    cases e : mb ρ with
    | ok fl => rw [e] at k; cases fl <;> exact k
    | stuck => rw [e] at k; exact k.elim
    | err c ρ1 =>
      rw [e] at k
      dsimp only at k
      cases el : T.lookup c.nm with
      | none => rw [el] at k; exact k.elim
      | some l =>
        rw [el] at k
        simp only [Option.isSome_some, if_true] at k
        intro σ1 S1 H1 x1 o1 C hC dd hdd
        obtain ⟨C', f1⟩ := ef c.nm l el
        have eC : C = C' := by have z := hC.symm.trans f1.g; injection z with z; injection z
        subst eC
        obtain ⟨D1, gd, em, _⟩ := f1.o x lx hx
        have eD : D1 = D0 := by have z := gd.symm.trans fx.g; injection z with z; injection z
        subst eD
        refine ⟨l.contains x, em, fun hb1 a ha => ?_, fun hb1 => ?_⟩
        · rw [isaB_eq el, hb1, if_pos rfl] at k
          refine ⟨c.nm, l, C, rfl, f1, el, B, Fr, S1, ρ1.set i (.v c.dat), ?_, ?_⟩
          · have o2 : Ok ((gOf X).up (some (a, dd))) B Fr S1 ρ1 σ1 H1 := o1.xa (.inr g0)
            have o3 : Ok ((gOf X).up (some (a, dd))) B Fr S1 (.v c.dat :: ρ1) (some (.ref a) :: σ1) H1 := o2.push (by
              unfold ErrD at hdd
              unfold Er.dat
              cases en : c.ns with
              | nil =>
                rw [en] at hdd
                have hdd : dd = none := hdd
                subst hdd
                simp only [Rep]
                exact ⟨a, rfl, rfl⟩
              | cons n ns =>
                rw [en] at hdd
                obtain ⟨dx, us, e1, e2, e3, e4⟩ := hdd
                simp only [Rep]
                subst e1
                exact ⟨a, dx, us, rfl, rfl, e2, e3, e4.xa (.inr g0)⟩)
            exact o3.store fun _ z => nomatch z
          · have down : ∀ {S' : Hp} {ρ' : ME} {σ' : SV} {H' : Hp} {y : Option V}, Ok ((gOf X).up (some (a, dd))) B Fr S' ρ' σ' H' -> allX i ρ' = true -> Ok (gOf X) B Fr S' (ρ'.set i .no) (σ'.set i y) H' := fun {S' ρ' σ' H' y} o2 hn => by
              have o3 := (o2.wipe1 i y).xa (y := none) (.inl hn)
              have eg : ((gOf X).up (some (a, dd))).up none = gOf X := by
                show (⟨X.prog, X.w, X.K, X.mg, none⟩ : Gd) = ⟨X.prog, X.w, X.K, X.mg, xaOf X.calm X.A.handled X.pn⟩
                rw [hc]; rfl
              rw [eg] at o3
              exact o3
            cases es : su c.nm (ρ1.set i (.v c.dat)) with
            | stuck => rw [es] at k; exact k.elim
            | err _ _ => rw [es] at k; exact k.elim
            | ok fl =>
              rw [es] at k
              cases fl with
              | nx ρ2 =>
                dsimp only [endX] at k
                cases en : allX i ρ2 with
                | false => rw [en] at k; exact k.elim
                | true =>
                  rw [en] at k
                  exact fun σ2 S2 H2 x2 o2 => k _ S2 H2 (x1.trans x2) (down o2 en)
              | bk ρ2 =>
                dsimp only [endX] at k
                cases en : allX i ρ2 with
                | false => rw [en] at k; exact k.elim
                | true =>
                  rw [en] at k
                  exact fun σ2 S2 H2 x2 o2 => k _ S2 H2 (x1.trans x2) (down o2 en)
              | ct ρ2 =>
                dsimp only [endX] at k
                cases en : allX i ρ2 with
                | false => rw [en] at k; exact k.elim
                | true =>
                  rw [en] at k
                  exact fun σ2 S2 H2 x2 o2 => k _ S2 H2 (x1.trans x2) (down o2 en)
              | rt s ρ2 =>
                dsimp only [endX] at k
                cases en : allX i ρ2 && noXS s with
                | false => rw [en] at k; exact k.elim
                | true =>
                  rw [en] at k
                  rw [Bool.and_eq_true] at en
                  intro σ2 x0 S2 H2 x2 o2
                  refine k (σ2.set i none) x0 S2 H2 (x1.trans x2) ?_
                  have o3 : Ok ((gOf X).up (some (a, dd))) B Fr S2 (s :: ρ2.set i .no) (some x0 :: σ2.set i none) H2 := o2.wipe1 (i + 1) none
                  have o4 := o3.xa (y := none) (.inl (by rw [List.all_cons, en.2]; exact en.1))
                  have eg : ((gOf X).up (some (a, dd))).up none = gOf X := by
                    show (⟨X.prog, X.w, X.K, X.mg, none⟩ : Gd) = ⟨X.prog, X.w, X.K, X.mg, xaOf X.calm X.A.handled X.pn⟩
                    rw [hc]; rfl
                  rw [eg] at o4
                  exact o4
        · rw [isaB_eq el, hb1, if_neg Bool.false_ne_true] at k
          exact k σ1 S1 H1 x1 o1 C hC dd hdd
end
section
variable {X : Cx} {T : ETab} {W : WX} {a : Addr} {oe : Obj} {pn : List (Addr × Obj)} {c d y : Str} {l l2 : List Str} {C : Addr} {p p1 p2 pos : Pos} {i : Nat}
theorem xa_suite (X : Cx) (a : Addr) (oe : Obj) (pn : List (Addr × Obj)) : (gOf (X.suite a ((a, oe) :: pn))).xa = some (a, oe.dict) := by
 show some (a, (((a, oe) :: pn).lookup a).bind (·.dict)) = _
 rw [List.lookup_cons, beq_self_eq_true]; rfl
end
def clsAt (K : PySem.W.Frag) (x : Str) : Option Addr := match PySem.W.nsIn K mainGlobals x with
 | some (some (.ref a)) => some a
 | _ => none
def excOneB (T : ETab) (K : PySem.W.Frag) (c : Str) (l : List Str) : Bool := match clsAt K c with
 | none => false
 | some C => PySem.W.keepIn K (.ref C) && (l.contains ("__init__" : Str) || PySem.W.excIn K C veMro "ValueError.__new__") && (PySem.W.subIn K (.ref C) (.type "BaseException") == some true) && (PySem.W.typeIn K (.ref C) == some (.type "type"))
  && (PySem.W.findIn K (.ref C) "__getattribute__" == some (some (.builtin "BaseException.__getattribute__"))) && (PySem.W.findIn K (.ref C) "__getattr__" == some none) && PySem.W.hasDictIn K C
  && (PySem.W.findIn K (.ref C) "__class__" == some (some (.builtin "object.__class__"))) && (PySem.W.specialIn K (.builtin "object.__class__") "__get__" == some (some (.builtin "getset_descriptor.__get__")))
  && (PySem.W.takesIn K (.builtin "object.__class__") == some true) && (PySem.W.mroIn K C (.type "object") == some true) && (PySem.W.kitOne K (.ref C) (.type "ValueError") == some true)
  && T.all fun q => match clsAt K q.1 with
   | none => false
   | some D => (PySem.W.exmOne K (.ref C) (.ref D) == some (l.contains q.1)) && (PySem.W.kitOne K (.ref C) (.ref D) == some (l.contains q.1))
def excB (T : ETab) (K : PySem.W.Frag) : Bool := T.all fun q => excOneB T K q.1 q.2
theorem lookup_mem {β : Type} : ∀ {T : List (Str × β)} {c : Str} {l : β}, T.lookup c = some l -> (c, l) ∈ T
 | [], c, l, h => by cases h
 | (k, v) :: T, c, l, h => by
  rw [List.lookup_cons] at h
  cases e : c == k with
  | true =>
   rw [e] at h
   have : c = k := beq_iff_eq.mp e
   subst this
   cases h
   exact List.mem_cons_self
  | false =>
   rw [e] at h
   exact List.mem_cons_of_mem _ (lookup_mem h)
theorem clsAt_mg {K : PySem.W.Frag} {h : Heap} {mg : Str -> Option Value} {x : Str} {a : Addr} (X : K.In h) (Gm : h.Ns mainGlobals mg) (e : clsAt K x = some a) : mg x = some (.ref a) := by
 unfold clsAt at e
 split at e
 ·rename_i b q
  cases e
  exact PySem.W.mg_of X Gm q
 ·cases e
theorem excB_ok {P : Program} {w : World} {K : PySem.W.Frag} {h : Heap} {mg : Str -> Option Value} {T : ETab} (X : K.In h) (Gm : h.Ns mainGlobals mg) (e : excB T K = true) : ExF ⟨P, w, K, mg, none⟩ T := by
 intro c l hl
 have q := List.all_eq_true.mp e (c, l) (lookup_mem hl)
 unfold excOneB at q
 dsimp only at q
 cases ec : clsAt K c with
 | none => rw [ec] at q; cases q
 | some C =>
  rw [ec] at q
  simp only [Bool.and_eq_true, beq_iff_eq] at q
  obtain ⟨⟨⟨⟨⟨⟨⟨⟨⟨⟨⟨⟨q1, q2⟩, q3⟩, q4⟩, q5⟩, q6⟩, q7⟩, q8⟩, q9⟩, q10⟩, q11⟩, q12⟩, q13⟩ := q
  refine ⟨C, clsAt_mg X Gm ec, q1, fun z => by rw [z] at q2; exact q2, q3, q4, ⟨q5, q6, q3, q7, q8, q9, q10, q11⟩, q12, fun d l2 hd => ?_⟩
  have z := List.all_eq_true.mp q13 (d, l2) (lookup_mem hd)
  dsimp only at z
  cases ed : clsAt K d with
  | none => rw [ed] at z; cases z
  | some D =>
   rw [ed] at z
   simp only [Bool.and_eq_true, beq_iff_eq] at z
   exact ⟨D, clsAt_mg X Gm ed, z.1, z.2⟩
abbrev CTab := List (Str × List Str)
def ClsF (G : Gd) (T : CTab) : Prop := ∀ c fs, T.lookup c = some fs -> ∃ C, G.mg c = some (.ref C) /\ Cls G.K C /\ ∀ f ∈ fs, NoAttr G.K C f
def hasF (T : CTab) (c f : Str) : Bool := ((T.lookup c).getD []).contains f
theorem ClsF.get {G : Gd} {T : CTab} (h : ClsF G T) {c f : Str} {C : Addr} (e : hasF T c f = true) (g : G.mg c = some (.ref C)) : Cls G.K C /\ NoAttr G.K C f := by
 unfold hasF at e
 cases q : T.lookup c with
 | none => rw [q] at e; exact absurd e (by simp)
 | some fs =>
  rw [q] at e
  obtain ⟨C', g', c', n⟩ := h c fs q
  have : C = C' := by have z := g.symm.trans g'; injection z with z; injection z
  subst this
  exact ⟨c', n f (List.contains_iff_mem.mp e)⟩
def gFld (T : CTab) (f : Str) : D -> Option D
 | .ins c ns ds => if hasF T c f then valD ns ds f else none
 | _ => none
def mFldV (T : CTab) (f : Str) (i : Nat) : ME -> MR := fun ρ => match (slotD ρ i).bind (gFld T f) with
 | some e => .ok (.v e, ρ)
 | none => .stuck
def putNs (f : Str) : List Str -> List Str
 | [] => [f]
 | n :: ns => if n = f then n :: ns else n :: putNs f ns
def putDs (f : Str) (e : D) : List Str -> List D -> List D
 | n :: ns, d :: ds => if n = f then e :: ds else d :: putDs f e ns ds
 | _, _ => [e]
def mFldS (T : CTab) (k : Nat) (f : Str) (me : ME -> MR) : ME -> MS := fun ρ => frzS (me ρ) fun e ρ1 => match heldAt ρ1 k with
 | some (.ins c ns ds) => if hasF T c f && decide (ns.length < 900) then .ok (.nx (putAt ρ1 k (.ins c (putNs f ns) (putDs f e ns ds)))) else .stuck
 | _ => .stuck
def MethOk (P : Program) (w : World) (K : PySem.W.Frag) (mg : Str -> Option Value) (base : Heap) (c m : Str) (n k : Nat) (f : MF) : Prop :=
 ∃ (C g : Addr) (fd : FuncData) (ps : List Str), mg c = some (.ref C) /\ Cls K C /\ Meth K C m g /\ Binds K fd ps [] /\ ps.length = k /\ FnOk P w K mg base (L2.CX P w) n g fd ps (spM ⟨P, w, K, mg, none⟩ k f)
theorem MethOk.mono {P : Program} {w : World} {K : PySem.W.Frag} {mg : Str -> Option Value} {base : Heap} {c m : Str} {n n' k : Nat} {f : MF} (h : MethOk P w K mg base c m n k f) (l : n ≤ n') : MethOk P w K mg base c m n' k f := by
 obtain ⟨C, g, fd, ps, h1, h2, h3, h4, h5, h6⟩ := h
 exact ⟨C, g, fd, ps, h1, h2, h3, h4, h5, h6.mono l⟩
def pickM (ml : List (Str × MF)) (m : Str) : D -> Option MF
 | .ins c ns _ => if ns.contains m then none else ml.lookup c
 | _ => none
def resF (r : MR) (ρ : ME) : MR := match r with
 | .ok (.v d, _) => .ok (.v d, ρ)
 | .ok (.own d, _) => .ok (.own d, ρ)
 | .err c _ => .err c ρ
 | _ => .stuck
def resX (k : Nat) (r : MR) (ρ : ME) : MR := match r with
 | .ok (.v d, .box b' :: _) => .ok (.v d, putAt ρ k b')
 | .ok (.own d, .box b' :: _) => .ok (.own d, putAt ρ k b')
 | .err c (.box b' :: _) => .err c (putAt ρ k b')
 | _ => .stuck
def mMethV (ml : List (Str × MF)) (m : Str) (k : Nat) (ms : ME -> ML) : ME -> MR := fun ρ => match ρ[k]? with
 | some (.v d) => (match pickM ml m d with
  | some f => bnd (ms ρ) fun p => resF (f (.v d :: p.1.map .v)) p.2
  | none => .stuck)
 | _ => (match (heldAt ρ k).bind (pickM ml m) with
  | some f => bnd (ms ρ) fun p => match heldAt p.2 k with
   | some b => resX k (f (.box b :: p.1.map .v)) p.2
   | none => .stuck
  | none => .stuck)
def MlOk (X : Cx) (m : Str) (n k : Nat) (ml : List (Str × MF)) : Prop := ∀ c f, ml.lookup c = some f -> MethOk X.prog X.w X.K X.mg X.base c m n k f
theorem MlOk.nil {X : Cx} {m : Str} {n k : Nat} : MlOk X m n k [] := fun _ _ h => by cases h
theorem MlOk.cons {X : Cx} {m c : Str} {n k : Nat} {f : MF} {ml : List (Str × MF)} (h : MethOk X.prog X.w X.K X.mg X.base c m n k f) (hs : MlOk X m n k ml) : MlOk X m n k ((c, f) :: ml) := fun c' f' e => by
 rw [List.lookup_cons] at e
 cases q : c' == c with
 | true =>
  rw [q] at e
  have z : c' = c := beq_iff_eq.mp q
  cases e
  rw [z]
  exact h
 | false =>
  rw [q] at e
  exact hs c' f' e
def MkOk (P : Program) (w : World) (K : PySem.W.Frag) (mg : Str -> Option Value) (base : Heap) (c : Str) (n np : Nat) (ks : List Str) (ar : List D -> List D -> List D) (f : MF) : Prop :=
 ∃ (C g : Addr) (fd : FuncData) (ps : List Str) (k : Nat) (g0 : List Value -> List Value -> List Value) (gV : List V -> List V -> List V), mg c = some (.ref C) /\ Mk K C g /\ KBn K fd ps (np + 1) ks g0 gV /\ FnOk P w K mg base (L2.CX P w) n g fd ps (spM ⟨P, w, K, mg, none⟩ k f) /\
  ∀ (S : Hp) (x : V) (xs zs : List V) (ds es : List D), xs.length = np -> zs.length = ks.length -> Reps ⟨P, w, K, mg, none⟩ S xs ds -> Reps ⟨P, w, K, mg, none⟩ S zs es -> ∃ ys, gV (x :: xs) zs = x :: ys /\ Reps ⟨P, w, K, mg, none⟩ S ys (ar ds es) /\ (ar ds es).length + 1 = k
theorem MkOk.mono {P : Program} {w : World} {K : PySem.W.Frag} {mg : Str -> Option Value} {base : Heap} {c : Str} {n n' np : Nat} {ks : List Str} {ar : List D -> List D -> List D} {f : MF} (h : MkOk P w K mg base c n np ks ar f) (l : n ≤ n') : MkOk P w K mg base c n' np ks ar f := by
 obtain ⟨C, g, fd, ps, k, g0, gV, h1, h2, h3, h4, h5⟩ := h
 exact ⟨C, g, fd, ps, k, g0, gV, h1, h2, h3, h4.mono l, h5⟩
def resM (r : MR) (ρ : ME) : MR := match r with
 | .ok (.v .non, .box b' :: _) => .ok (.own b', ρ)
 | .err c (.box _ :: _) => .err c ρ
 | _ => .stuck
def mMake (c : Str) (ar : List D -> List D -> List D) (f : MF) (ms mk : ME -> ML) : ME -> MR := fun ρ => bnd (ms ρ) fun p => bnd (mk p.2) fun q => resM (f (.box (.ins c [] []) :: (ar p.1 q.1).map .v)) q.2
def one {α : Type} (n : Nat) (l : List α) : List α := (l.drop n).take 1
def mNewK : ME -> MR := fun ρ => .ok (.own (.dK [] []), ρ)
def mNewT : ME -> MR := fun ρ => .ok (.own (.dT [] []), ρ)
section
variable {κ : Type} [DecidableEq κ]
def hasK (k : κ) : List κ -> Bool
 | [] => false
 | n :: ns => if n = k then true else hasK k ns
def putKs (k : κ) (ns : List κ) : List κ := if hasK k ns then ns else ns ++ [k]
def repV (k : κ) (e : D) : List κ -> List D -> List D
 | n :: ns, d :: ds => (if n = k then e else d) :: repV k e ns ds
 | _, _ => []
def putVs (k : κ) (e : D) (ns : List κ) (ds : List D) : List D := if hasK k ns then repV k e ns ds else ds ++ [e]
end
def tkey? : D -> Option (List Key)
 | .tup ds => keys? ds
 | _ => none
def putD (d i e : D) : Option D := match d with
 | .dK ks vs => (key? i).bind fun k => if ks.length < 900000 then some (.dK (putKs k ks) (putVs k e ks vs)) else none
 | .dT ks vs => (tkey? i).bind fun k => if ks.length < 900000 then some (.dT (putKs k ks) (putVs k e ks vs)) else none
 | _ => none
def mPut (k : Nat) (mi me : ME -> MR) : ME -> MS := fun ρ => frzS (me ρ) fun e ρ1 => match heldAt ρ1 k with
 | none => .stuck
 | some _ => frzS (mi ρ1) fun i ρ2 => match (heldAt ρ2 k).bind fun d => putD d i e with
  | some d' => .ok (.nx (putAt ρ2 k d'))
  | none => .stuck
def kD : Key -> D
 | .inl i => .int i
 | .inr s => .str s
def keysD : D -> Option (List D)
 | .dK ks _ => some (ks.map kD)
 | .dT ks _ => some (ks.map fun k => .tup (k.map kD))
 | _ => none
theorem rep_kD {G : Gd} {S : Hp} (k : Key) : Rep G S (kV k) (kD k) := by
 cases k <;> simp only [kV, kD, Rep]
theorem reps_kD {G : Gd} {S : Hp} : ∀ k : List Key, Reps G S (k.map kV) (k.map kD)
 | [] => Reps.nil
 | k :: ks => Reps.cons (rep_kD k) (reps_kD ks)
section
variable {G : Gd} {W : WX} {B : BxA} {Fr S : Hp} {ρ : ME} {σ : SV} {H : Hp}
theorem Ok.addTup (h : Ok G B Fr S ρ σ H) {q : Addr} {vs : List V} (e : H q = some (.tup vs)) : ∃ S', Ext Fr S S' /\ Ok G B Fr S' ρ σ H /\ S' q = some (.tup vs) := by
 cases z : S q with
 | some o =>
  rcases h.st q o z with y | ⟨l, od, y, _⟩
  ·rw [e] at y; cases y; exact ⟨S, Ext.refl, h, z⟩
  ·rw [e] at y; cases y
 | none =>
  have sm : Same S (upd S q (.tup vs)) := Same.upd z
  refine ⟨upd S q (.tup vs), ⟨sm, fun b o hb hf n => ?_⟩, ⟨h.fr, fun b u eb => ?_, h.len, fun i d ei => ?_, fun i s d ei hd => ?_, h.bx, h.inj, h.ce.heap sm (fun _ _ z => z) fun a u e1 e2 e3 n _ => ⟨e1, by
   rw [upd_ne (fun y => by rw [y, e] at e1; cases e1; exact n.elim)]; exact e2, e3⟩⟩, upd_same⟩
  ·by_cases hq : b = q
   ·subst hq
    have y := h.fr b o hf
    rw [e] at y
    cases y
    exact n.elim
   ·rw [upd_ne hq]; exact hb
  ·by_cases hq : b = q
   ·subst hq; rw [upd_same] at eb; cases eb; exact .inl e
   ·rw [upd_ne hq] at eb; exact h.st b u eb
  ·obtain ⟨x, e1, r⟩ := h.vs i d ei
   exact ⟨x, e1, r.mono sm⟩
  ·obtain ⟨a, u, e1, e2, r, e3, e4⟩ := h.ow i s d ei hd
   have ne : a ≠ q := fun y => by
    rw [y, e] at e2
    cases e2
    exact (r.nt : NT (.tup vs)).elim
   exact ⟨a, u, e1, e2, r.mono sm, by rw [upd_ne ne]; exact e3, e4⟩
end
def pVar (i : Nat) : ME -> Option D := fun ρ => match ρ[i]? with
 | some (.v d) => some d
 | _ => none
def pFldV (T : CTab) (f : Str) (i : Nat) : ME -> Option D := fun ρ => (slotD ρ i).bind (gFld T f)
theorem PS.or {X : Cx} {st : Stmt} {t u : TS} (h : PS X st t) (k : PS X st u) : PS X st (fun D σ H => t D σ H \/ u D σ H) := ⟨fun pins s σ H D I q => q.elim (h.run pins s σ H D I) (k.run pins s σ H D I)⟩
theorem PE.or {X : Cx} {e : Expr} {t u : TE} (h : PE X e t) (k : PE X e u) : PE X e (fun σ H Q => t σ H Q \/ u σ H Q) := ⟨fun pins s σ H Q I q => q.elim (h.run pins s σ H Q I) (k.run pins s σ H Q I)⟩
def noErr : MS -> MS
 | .err _ _ => .stuck
 | r => r
def mForK (m : ME -> Option D) (t : MT) (mb : ME -> MS) : ME -> MS := fun ρ => match (m ρ).bind keysD with
 | some ds => noErr (mLoop t mb ds ρ)
 | none => .stuck
def mLcK (m : ME -> Option D) (t : MT) (tt : ME -> MB) (me : ME -> MR) (vs : List Nat) : ME -> MR := fun ρ => match (m ρ).bind keysD with
 | some ds => lcTail t tt me vs (ds, ρ)
 | none => .stuck
theorem LockO.mut {u : HO} (l : LockO u) : Mut (some u) := by cases u <;> first | exact l.elim | exact trivial
def cpLoop {α : Type} (t : MT) (tt : ME -> MB) (st : α -> ME -> Res (α × ME)) (vs : List Nat) : List D -> α -> ME -> Res (α × ME)
 | [], acc, ρ => .ok (acc, ρ)
 | d :: ds, acc, ρ => match t d ρ with
  | none => .stuck
  | some ρ1 => match tt ρ1 with
   | .ok (true, ρ2) => match st acc ρ2 with
    | .ok (acc', ρ3) => cpLoop t tt st vs ds acc' (wipeM ρ3 vs)
    | _ => .stuck
   | .ok (false, ρ2) => cpLoop t tt st vs ds acc (wipeM ρ2 vs)
   | _ => .stuck
def frzA {α : Type} (r : MR) (f : D -> ME -> Res α) : Res α := match r with
 | .ok (.v d, ρ) => f d ρ
 | .ok (.own d, ρ) => f d ρ
 | _ => .stuck
def dcStep (mk mv : ME -> MR) (acc : D) (ρ : ME) : Res (D × ME) := frzA (mk ρ) fun k ρ1 => frzA (mv ρ1) fun e ρ2 => match putD acc k e with
 | some a => .ok (a, ρ2)
 | none => .stuck
def dcTail (a0 : D) (t : MT) (tt : ME -> MB) (mk mv : ME -> MR) (vs : List Nat) : List D × ME -> MR := fun p =>
 if vs.all (plain p.2) then match cpLoop t tt (dcStep mk mv) vs p.1 a0 (wipeM p.2 vs) with
  | .ok (acc, ρ1) => .ok (.own acc, putBack p.2 ρ1 vs)
  | _ => .stuck
 else .stuck
def mDc (a0 : D) (mi : ME -> MI) (t : MT) (tt : ME -> MB) (mk mv : ME -> MR) (vs : List Nat) : ME -> MR := fun ρ => bnd (mi ρ) (dcTail a0 t tt mk mv vs)
def mDcK (a0 : D) (m : ME -> Option D) (t : MT) (tt : ME -> MB) (mk mv : ME -> MR) (vs : List Nat) : ME -> MR := fun ρ => match (m ρ).bind keysD with
 | some ds => dcTail a0 t tt mk mv vs (ds, ρ)
 | none => .stuck
section
variable {G : Gd} {W : WX} {B : BxA} {Fr S : Hp} {ρ : ME} {σ : SV} {H : Hp}
theorem ext_new {D : Addr} {o : HO} {S' : Hp} (fD : Fr D = none) (e : Ext (upd Fr D o) S S') : Ext Fr S S' := e.anti fun b o' _ hb n => by
 have nb : b ≠ D := fun z => by rw [z, fD] at hb; cases hb
 exact ⟨o', by rw [upd_ne nb]; exact hb, n⟩
end
def minI : List Int -> Option Int
 | [] => none
 | n :: ns => match minI ns with
  | none => some n
  | some m => some (if m < n then m else n)
def gMinL : D -> Option Slot
 | .lst ds => (ints? ds).bind fun ns => (minI ns).map fun m => .v (.int m)
 | _ => none
abbrev IP := Int × Int
def pD (p : IP) : D := .tup [.int p.1, .int p.2]
def pair? : D -> Option IP
 | .tup [.int i, .int j] => some (i, j)
 | _ => none
def pairs? : List D -> Option (List IP)
 | [] => some []
 | d :: ds => (pair? d).bind fun p => (pairs? ds).map fun ps => p :: ps
def ltB (p q : IP) : Bool := decide (p.1 < q.1) || (decide (p.1 = q.1) && decide (p.2 < q.2))
def insP (p : IP) : List IP -> List IP
 | [] => [p]
 | q :: qs => if ltB q p then q :: insP p qs else p :: q :: qs
def sortP : List IP -> List IP
 | [] => []
 | p :: ps => insP p (sortP ps)
theorem insP_perm (x : IP) : ∀ l, (insP x l).Perm (x :: l)
 | [] => .refl _
 | y :: r => by
  unfold insP; split
  ·exact ((insP_perm x r).cons y).trans (.swap _ _ _)
  ·exact .refl _
theorem sortP_perm : ∀ ns, (sortP ns).Perm ns
 | [] => .refl _
 | x :: r => (insP_perm x _).trans ((sortP_perm r).cons x)
def gSorted : D -> Option Slot
 | .lst ds => match ints? ds with
  | some ns => some (.own (.lst ((PySem.W.sortI ns).map .int)))
  | none => (pairs? ds).map fun ps => .own (.lst ((sortP ps).map pD))
 | _ => none
def orb (m : Nat) : Nat -> Nat -> Nat -> Nat
 | 0, _, acc => acc
 | n + 1, i, acc => orb m n ((i * 5 + 1) % (m + 1)) (acc ||| (1 <<< i))
theorem orb_bit (m : Nat) : ∀ (n b acc j : Nat), (orb m n (lcgN m b) acc).testBit j = true -> acc.testBit j = true \/ ∃ k, b ≤ k /\ k < b + n /\ lcgN m k = j
 | 0, _, _, _, h => .inl h
 | n + 1, b, acc, j, h => by
  rcases orb_bit m n (b + 1) (acc ||| (1 <<< lcgN m b)) j h with e | ⟨k, k1, k2, k3⟩
  ·rw [Nat.testBit_or, Bool.or_eq_true] at e
   rcases e with e | e
   ·exact .inl e
   ·refine .inr ⟨b, Nat.le_refl _, by omega, ?_⟩
    rw [Nat.one_shiftLeft, Nat.testBit_two_pow] at e
    exact of_decide_eq_true e
  ·exact .inr ⟨k, by omega, by omega, k3⟩
structure MG (m : Nat) : Prop where
 one : m = 7 \/ m = 31 \/ m = 127 \/ m = 511 \/ m = 2047
 hit : ∀ b, b < 2 ^ 64 -> ∀ j, j ≤ m -> ∃ n, n ≤ m + 12 /\ runI m b n = j
theorem MG.le {m : Nat} (h : MG m) : m ≤ 2047 := by have := h.one; omega
theorem mg_of {m : Nat} (hm : m = 7 \/ m = 31 \/ m = 127 \/ m = 511 \/ m = 2047) (h : orb m (m + 1) 0 0 = 2 ^ (m + 1) - 1) (hz : lcgN m (m + 1) = 0) : MG m := by
 have all : ∀ j, j ≤ m -> ∃ k, k ≤ m /\ lcgN m k = j := fun j hj => by
  have e : (orb m (m + 1) (lcgN m 0) 0).testBit j = true := by
   show (orb m (m + 1) 0 0).testBit j = true
   rw [h, Nat.testBit_two_pow_sub_one]
   exact decide_eq_true (by omega)
  rcases orb_bit m (m + 1) 0 0 j e with e | ⟨k, _, k2, k3⟩
  ·simp at e
  ·exact ⟨k, by omega, k3⟩
 have turn : ∀ k, lcgN m (m + 1 + k) = lcgN m k := fun k => by
  have a := lcgN_add m (m + 1) k
  have b := lcgN_add m 0 k
  rw [hz] at a
  rw [Nat.zero_add] at b
  exact a.symm.trans b
 refine ⟨hm, fun b hb j hj => ?_⟩
 obtain ⟨x, x1, x2⟩ := all _ (runI_le m b 12)
 obtain ⟨y, y1, y2⟩ := all j hj
 have go : ∃ k, k ≤ m /\ lcgN m (x + k) = j := by
  by_cases c : x ≤ y
  ·exact ⟨y - x, by omega, by rw [show x + (y - x) = y by omega]; exact y2⟩
  ·exact ⟨m + 1 + y - x, by omega, by rw [show x + (m + 1 + y - x) = m + 1 + y by omega, turn]; exact y2⟩
 obtain ⟨k, k1, k2⟩ := go
 refine ⟨12 + k, by omega, ?_⟩
 rw [runI_tail hb, <- x2, lcgN_add]
 exact k2
theorem way_in (m : Nat) (h : Int) (k : Nat) : way m h k ≤ m := by
 have i0 : SetTable.bits h % (m + 1) ≤ m := Nat.le_of_lt_succ (Nat.mod_lt _ (Nat.succ_pos _))
 have r0 := runEnd_bd i0
 have := nth_in (m := m) k (runAt m (SetTable.bits h % (m + 1)) (SetTable.bits h)) (by unfold runAt; dsimp only; omega)
 unfold way
 omega
structure TabG (t : SetTable) (hs : List Int) : Prop where
 ris : Ris t.place.toList
 dm : t.dummies = #[]
 sz : t.place.size = hs.length
 mg : MG t.mask
 bd : ∀ x ∈ t.place.toList, x ≤ t.mask
 fnd : ∀ (i : Nat) (h : Int) (j : Nat), hs[i]? = some h -> t.place.toList[i]? = some j -> ∃ k, way t.mask h k = j /\ ∀ c, c < k -> way t.mask h c ∈ t.place.toList
theorem TabG.gap {t : SetTable} {hs : List Int} (T : TabG t hs) (room : hs.length ≤ t.mask) (h : Int) : ∃ K, K < 10 * SetTable.turns t.mask /\ way t.mask h K ∉ t.place.toList /\ ∀ c, c < K -> way t.mask h c ∈ t.place.toList := by
 obtain ⟨j, j1, j2⟩ := st_missing t.place.toList (t.mask + 1) (by rw [Array.length_toList, T.sz]; omega)
 obtain ⟨n, n1, n2⟩ := T.mg.hit _ (bits_lt h) j (by omega)
 obtain ⟨k, k1, k2⟩ := run_nth t.mask (SetTable.bits h) n
 have ek : way t.mask h k = j := by unfold way; rw [k2]; exact n2
 obtain ⟨K, a, b, c⟩ := st_least (p := fun k => way t.mask h k ∉ t.place.toList) k (by rw [show way t.mask h k = j from ek]; exact j2)
 exact ⟨K, by unfold SetTable.turns; omega, b, fun x hx => Classical.not_not.mp (c x hx)⟩
theorem TabG.ahead {t : SetTable} {hs : List Int} (T : TabG t hs) {h : Int} {K i j : Nat} (gap : way t.mask h K ∉ t.place.toList) (hi : hs[i]? = some h) (hj : t.place.toList[i]? = some j) : ∃ k, k < K /\ way t.mask h k = j := by
 obtain ⟨k, e, all⟩ := T.fnd i h j hi hj
 refine ⟨k, Nat.lt_of_not_le fun le => gap ?_, e⟩
 rcases Nat.lt_or_ge K k with c | c
 ·exact all K c
 ·rw [show K = k by omega, e]
  exact List.mem_of_getElem? hj
theorem TabG.put {t : SetTable} {hs : List Int} (T : TabG t hs) {h : Int} {K j : Nat} (ej : way t.mask h K = j) (gap : j ∉ t.place.toList) (all : ∀ c, c < K -> way t.mask h c ∈ t.place.toList) :
    SetTable.below t.place j ≤ hs.length /\ TabG (t.put j).1 (hs.take (SetTable.below t.place j) ++ h :: hs.drop (SetTable.below t.place j)) /\ (t.put j).1.fill = hs.length + 1 := by
  have len : t.place.toList.length = hs.length := by rw [Array.length_toList, T.sz]
  have p1 : SetTable.below t.place j ≤ hs.length := by
    have := (below_cut T.ris j).1
    rw [T.sz] at this
    exact this
  have new := put_place t j
  have size : (t.put j).1.place.size = hs.length + 1 := by
    rw [<- Array.length_toList, new, len_ins _ (by omega), len]
  have more : ∀ x, x ∈ (t.put j).1.place.toList ↔ x = j \/ x ∈ t.place.toList := fun x => by rw [new]; exact mem_ins
  have dm := put_dm T.dm j
  refine ⟨p1, ⟨ris_insert T.ris fun e => gap (List.mem_of_getElem? (by rw [Array.getElem?_toList]; exact e)), dm, by rw [size, len_ins _ p1], T.mg, fun x hx => ?_, fun i h' j' h1 h2 => ?_⟩, ?_⟩
  · rcases (more x).mp hx with rfl | z
    · rw [<- ej]; exact way_in _ _ _
    · exact T.bd x z
  · have keep : ∀ i, hs[i]? = some h' -> t.place.toList[i]? = some j' -> ∃ k, way t.mask h' k = j' /\ ∀ c, c < k -> way t.mask h' c ∈ (t.put j).1.place.toList := fun i e1 e2 => by
      obtain ⟨k, a, b⟩ := T.fnd i h' j' e1 e2
      exact ⟨k, a, fun c hc => (more _).mpr (.inr (b c hc))⟩
    rw [tins_get hs p1] at h1
    rw [new, tins_get _ (by omega)] at h2
    split at h1
    · rename_i c
      rw [if_pos c] at h2
      exact keep i h1 h2
    · rename_i c
      rw [if_neg c] at h2
      split at h1
      · rename_i d
        rw [if_pos d] at h2
        cases h1; cases h2
        exact ⟨K, ej, fun c hc => (more _).mpr (.inr (all c hc))⟩
      · rename_i d
        rw [if_neg d] at h2
        exact keep _ h1 h2
  · unfold SetTable.fill
    rw [size, dm]
    rfl
structure SG (P : Program) (w : World) (h : Heap) (a : Addr) (L : List (Addr × List Int)) (es : Array (Int × Value)) (ep : Nat) (t : SetTable) : Prop where
 ob : ∃ o, h.get? a = some o /\ o.ExactSet /\ o.data = .set es ep t
 rows : es.toList = rowsOf P w L
 tab : TabG t (L.map fun p => thash P w p.2)
 nd : (L.map (·.2)).Nodup
 tup : ∀ p ∈ L, IsT P w h p.2 p.1
 plain : t.plain = true
 led : w.params.followText "set-order" = true \/ t.led = true
 room : L.length * 5 < t.mask * 3
section
variable {P : Program} {w : World} {A : Around} {E : Value -> Shared -> Prop} {s : Shared}
variable {a : Addr} {L : List (Addr × List Int)} {es : Array (Int × Value)} {ep : Nat} {t : SetTable}
theorem SG.few {h : Heap} (R : SG P w h a L es ep t) : L.length < 1300 := by
 have := R.room
 have := R.tab.mg.le
 omega
end
def two : List Int -> Int × Int
 | [i, j] => (i, j)
 | _ => (0, 0)
def scStep (me : ME -> MR) (acc : List IP) (ρ : ME) : Res (List IP × ME) := frzA (me ρ) fun d ρ1 => match pair? d with
 | some p => if acc.length < 1000 then .ok (if p ∈ acc then acc else acc ++ [p], ρ1) else .stuck
 | none => .stuck
def in64 (p : IP) : Bool := decide (-1000000000 ≤ p.1) && decide (p.1 < 1000000000) && decide (-1000000000 ≤ p.2) && decide (p.2 < 1000000000)
def scTail (t : MT) (tt : ME -> MB) (me : ME -> MR) (vs : List Nat) : List D × ME -> MR := fun p =>
 if vs.all (plain p.2) then match cpLoop t tt (scStep me) vs p.1 [] (wipeM p.2 vs) with
  | .ok (acc, ρ1) => if acc.all in64 then .ok (.own (.lst ((sortP acc).map pD)), putBack p.2 ρ1 vs) else .stuck
  | _ => .stuck
 else .stuck
def mSortScK (m : ME -> Option D) (t : MT) (tt : ME -> MB) (me : ME -> MR) (vs : List Nat) : ME -> MR := fun ρ => match (m ρ).bind keysD with
 | some ds => scTail t tt me vs (ds, ρ)
 | none => .stuck
def insU (x : Int) : List Int -> List Int
 | [] => [x]
 | y :: r => if y < x then y :: insU x r else if y = x then y :: r else x :: y :: r
def sortU : List Int -> List Int
 | [] => []
 | x :: r => insU x (sortU r)
theorem insU_mem {x z : Int} : ∀ {l : List Int}, z ∈ insU x l ↔ z = x \/ z ∈ l
 | [] => by simp [insU]
 | y :: r => by
  unfold insU
  split
  ·rw [List.mem_cons, insU_mem, List.mem_cons]; constructor
   ·rintro (h | h | h) <;> simp [h]
   ·rintro (h | h | h) <;> simp [h]
  ·split
   ·rename_i e; subst e; simp
   ·simp
theorem sortU_mem {z : Int} : ∀ {l : List Int}, z ∈ sortU l ↔ z ∈ l
 | [] => by simp [sortU]
 | x :: r => by
  unfold sortU
  rw [insU_mem, sortU_mem, List.mem_cons]
theorem insU_rises (x : Int) : ∀ l : List Int, l.Pairwise (· < ·) -> (insU x l).Pairwise (· < ·)
 | [], _ => by simp [insU]
 | y :: r, h => by
  obtain ⟨h1, h2⟩ := List.pairwise_cons.mp h
  unfold insU
  split
  ·refine List.pairwise_cons.mpr ⟨fun z hz => ?_, insU_rises x r h2⟩
   rcases insU_mem.mp hz with rfl | hz
   ·assumption
   ·exact h1 z hz
  ·split
   ·exact h
   ·refine List.pairwise_cons.mpr ⟨fun z hz => ?_, h⟩
    rcases List.mem_cons.mp hz with rfl | hz
    ·omega
    ·have := h1 z hz; omega
theorem sortU_rises : ∀ l : List Int, (sortU l).Pairwise (· < ·)
 | [] => List.Pairwise.nil
 | x :: r => insU_rises x _ (sortU_rises r)
theorem lt_nodup {l : List Int} (h : l.Pairwise (· < ·)) : l.Nodup := h.imp fun {a b} hab => by omega
theorem sortU_eq {l ns : List Int} (h : l.Pairwise (· < ·)) (m : ∀ k, k ∈ l ↔ k ∈ ns) : l = sortU ns :=
 List.Perm.eq_of_pairwise (le := fun a b => a < b) (fun a b _ _ h1 h2 => by omega) h (sortU_rises ns) ((List.perm_ext_iff_of_nodup (lt_nodup h) (lt_nodup (sortU_rises ns))).mpr fun k => by rw [m, sortU_mem])
def mSortSet (ma : ME -> MR) : ME -> MR := fun ρ => frz (ma ρ) fun d ρ1 => match d with
 | .lst ds => match ints? ds with
  | some ns => if ns.length < 60 then .ok (.own (.lst ((sortU ns).map .int)), ρ1) else .stuck
  | none => .stuck
 | _ => .stuck
def gListA : D -> Option Slot
 | .dK ks _ => some (.own (.lst (ks.map kD)))
 | d => gList d
def rListA (K : PySem.W.Frag) : List V -> Hp -> VK -> Prop := fun xs H Q => (∃ p ys, xs = [.ref p] /\ (SqL K H p ys \/ SqT K H p ys) /\ ∀ l, H l = none -> Q (.ref l) (upd H l (.lst ys))) \/
 ∃ (a : Addr) (kvs : List (Key × V)), xs = [.ref a] /\ Rd H a (.dK kvs) /\ ∀ p, H p = none -> Q (.ref p) (upd H p (.lst (kvs.map fun kv => kV kv.1)))
theorem cr_listA {X : Cx} (hc : X.calm = true) : CallR X (.type "list") (rListA X.K) := fun pins s σ H vs us Q I r h => h.elim (call_list_of pins s σ H vs us Q I r) (call_listD hc pins s σ H vs us Q I r)
theorem sem_listA {G : Gd} : SemC1 G (rListA G.K) gListA := by
 intro B Fr S ρ σ H x d s Q o rx hg k
 by_cases hd : ∃ ks vs, d = .dK ks vs
 ·obtain ⟨ks, vs, rfl⟩ := hd
  cases hg
  obtain ⟨a, us, rfl, h, l, r⟩ := rx
  refine .inr ⟨a, _, rfl, h, fun p hp => ?_⟩
  have e : ((ks.zip us).map fun kv => kV kv.1) = ks.map kV := by
   have z := congrArg (List.map kV) (zip_fst (ks := ks) (vs := us) l.symm)
   rw [List.map_map] at z
   exact z
  rw [e]
  exact k.lst o (reps_kD ks) hp
 ·have hg' : gList d = some s := by
   cases d <;> first | exact hg | exact absurd ⟨_, _, rfl⟩ hd
  exact .inl (sem_list o rx hg' k)
structure Inn where
 key : Key
 ad : Addr
 ks : List Key
 us : List V
 ds : List D
abbrev NC := List (Key × List Key × List D)
def Inn.nc (m : Inn) : Key × List Key × List D := (m.key, m.ks, m.ds)
def topK (M : List Inn) : List (Key × V) := M.map fun m => (m.key, V.ref m.ad)
structure Nest (G : Gd) (Fr S Fr' : Hp) (f : Addr) (M : List Inn) : Prop where
 kn : (M.map Inn.key).Nodup
 nd : (f :: M.map Inn.ad).Nodup
 fr : ∀ b, b ∉ f :: M.map Inn.ad -> Fr' b = Fr b
 new : ∀ b, b ∈ f :: M.map Inn.ad -> Fr b = none /\ S b = none
 top : Fr' f = some (.dK (topK M))
 inn : ∀ m ∈ M, Fr' m.ad = some (.dK (m.ks.zip m.us)) /\ m.ks.length = m.us.length /\ Reps G S m.us m.ds
def putN (N : NC) (k j : Key) (d : D) : NC := if hasK k (N.map (·.1)) then N.map fun n => if n.1 = k then (n.1, putKs j n.2.1, putVs j d n.2.1 n.2.2) else n else N ++ [(k, [j], [d])]
section
variable {G : Gd} {B : BxA} {Fr S Fr' : Hp} {ρ : ME} {σ : SV} {H : Hp} {f : Addr} {M : List Inn}
theorem Nest.mono {S' : Hp} (n : Nest G Fr S Fr' f M) (e : Ext Fr' S S') : Nest G Fr S' Fr' f M := by
 refine ⟨n.kn, n.nd, n.fr, fun b hb => ⟨(n.new b hb).1, ?_⟩, n.top, fun m hm => ?_⟩
 ·rcases List.mem_cons.mp hb with rfl | hb'
  ·exact e.fresh _ _ (n.new _ hb).2 n.top trivial
  ·obtain ⟨m, hm, rfl⟩ := List.mem_map.mp hb'
   exact e.fresh _ _ (n.new _ hb).2 (n.inn m hm).1 trivial
 ·obtain ⟨h1, h2, h3⟩ := n.inn m hm
  exact ⟨h1, h2, h3.mono e.same⟩
theorem Nest.ext {S' : Hp} (n : Nest G Fr S Fr' f M) (e : Ext Fr' S S') : Ext Fr S S' := e.anti fun b o hb hf nt => by
 refine ⟨o, ?_, nt⟩
 rw [n.fr b fun z => by rw [(n.new b z).1] at hf; cases hf]
 exact hf
end
def keyAt (ρ : ME) (i : Nat) : Option Key := match ρ[i]? with
 | some (.v d) => key? d
 | _ => none
def vAt (ρ : ME) (i : Nat) : Option D := match ρ[i]? with
 | some (.v d) => some d
 | _ => none
def nestSmall (N : NC) : Bool := decide (N.length < 900000) && N.all fun n => decide (n.2.1.length < 900000)
def folI (t2 : MT) (kc ka kb : Nat) : List D -> ME -> NC -> Option (ME × NC)
 | [], ρ, N => some (ρ, N)
 | e :: es, ρ, N => match t2 e ρ with
  | none => none
  | some ρ1 => match keyAt ρ1 kc, keyAt ρ1 ka, vAt ρ1 kb with
   | some c, some a, some d => if nestSmall N then folI t2 kc ka kb es ρ1 (putN N c a d) else none
   | _, _, _ => none
section
variable {G : Gd} {B : BxA} {Fr S Fr' : Hp} {ρ : ME} {σ : SV} {H : Hp} {f : Addr} {M : List Inn} {k kc ka kb : Nat} {c j : Key} {d : D}
def folO (t1 : MT) (m2 : ME -> MR) (t2 : MT) (kc ka kb : Nat) : List D -> ME -> NC -> Option (ME × NC)
 | [], ρ, N => some (ρ, N)
 | d :: ds, ρ, N => match t1 d ρ with
  | none => none
  | some ρ1 => match m2 ρ1 with
   | .ok (.v (.tup es), ρ2) => match folI t2 kc ka kb es ρ2 N with
    | some (ρ3, N') => folO t1 m2 t2 kc ka kb ds ρ3 N'
    | none => none
   | _ => none
end
def nestD (N : NC) : D := .dK (N.map (·.1)) (N.map fun n => .dK n.2.1 n.2.2)
section
variable {G : Gd} {B : BxA} {Fr S Fr' : Hp} {ρ : ME} {σ : SV} {H : Hp} {f : Addr} {M : List Inn}
theorem Nest.frz (n : Nest G Fr S Fr' f M) (o : Ok G B Fr' S ρ σ H) : ∃ S3, Ext Fr S S3 /\ Ok G B Fr S3 ρ σ H /\ Rep G S3 (.ref f) (nestD (M.map Inn.nc)) := by
 have val : ∀ b, b ∈ f :: M.map Inn.ad -> ∃ u, Fr' b = some u := fun b hb => by
  rcases List.mem_cons.mp hb with rfl | hb
  ·exact ⟨_, n.top⟩
  ·obtain ⟨m, hm, rfl⟩ := List.mem_map.mp hb
   exact ⟨_, (n.inn m hm).1⟩
 have out : ∀ b u, Fr b = some u -> b ∉ f :: M.map Inn.ad := fun b u e z => by rw [(n.new b z).1] at e; cases e
 have outS : ∀ b u, S b = some u -> b ∉ f :: M.map Inn.ad := fun b u e z => by rw [(n.new b z).2] at e; cases e
 let S3 : Hp := fun b => if b ∈ f :: M.map Inn.ad then Fr' b else S b
 have s_in : ∀ b, b ∈ f :: M.map Inn.ad -> S3 b = Fr' b := fun b hb => if_pos hb
 have s_out : ∀ b, b ∉ f :: M.map Inn.ad -> S3 b = S b := fun b hb => if_neg hb
 have sm : Same S S3 := fun b u e => by rw [s_out b (outS b u e)]; exact e
 refine ⟨S3, ⟨sm, fun b u hb hf _ => by rw [s_out b (out b u hf)]; exact hb⟩, ⟨fun b u e => o.fr b u (by rw [n.fr b (out b u e)]; exact e), fun b u e => ?_, o.len, fun i d e => ?_, fun i s d e hd => ?_, o.bx, o.inj, o.ce.heap sm (fun _ _ z => z) fun a u e1 e2 e3 _ _ => by
  have hb : a ∉ f :: M.map Inn.ad := fun z => by obtain ⟨u, q⟩ := val a z; rw [e3] at q; cases q
  exact ⟨e1, by rw [s_out a hb]; exact e2, by rw [<- n.fr a hb]; exact e3⟩⟩, ?_⟩
 ·by_cases hb : b ∈ f :: M.map Inn.ad
  ·rw [s_in b hb] at e
   exact .inl (o.fr b u e)
  ·rw [s_out b hb] at e
   exact (o.st b u e).imp id fun ⟨l, od, z, zf⟩ => ⟨l, od, z, by rw [<- n.fr b hb]; exact zf⟩
 ·obtain ⟨x, e1, r⟩ := o.vs i d e
  exact ⟨x, e1, r.mono sm⟩
 ·obtain ⟨a, u, e1, e2, r, e3, e4⟩ := o.ow i s d e hd
  have hb : a ∉ f :: M.map Inn.ad := fun z => by obtain ⟨u, q⟩ := val a z; rw [e4] at q; cases q
  exact ⟨a, u, e1, e2, r.mono sm, by rw [s_out a hb]; exact e3, by rw [<- n.fr a hb]; exact e4⟩
 ·unfold nestD
  simp only [Rep]
  refine ⟨f, M.map fun m => V.ref m.ad, rfl, ?_, by simp, ?_⟩
  ·rw [s_in f List.mem_cons_self, n.top]
   have : ∀ L : List Inn, topK L = ((L.map Inn.nc).map (·.1)).zip (L.map fun m => V.ref m.ad) := by
    intro L
    induction L with
    | nil => rfl
    | cons m L ih =>
     show (m.key, V.ref m.ad) :: topK L = _
     rw [ih]; rfl
   rw [this]
  ·have : ∀ L : List Inn, (∀ m ∈ L, m ∈ M) -> Reps G S3 (L.map fun m => V.ref m.ad) ((L.map Inn.nc).map fun n => D.dK n.2.1 n.2.2) := by
    intro L
    induction L with
    | nil => intro _; exact Reps.nil
    | cons m L ih =>
     intro hL
     refine Reps.cons ?_ (ih fun y hy => hL y (List.mem_cons_of_mem _ hy))
     have hm := hL m List.mem_cons_self
     obtain ⟨h1, h2, h3⟩ := n.inn m hm
     show Rep G S3 (V.ref m.ad) (D.dK m.ks m.ds)
     simp only [Rep]
     exact ⟨m.ad, m.us, rfl, by rw [s_in _ (List.mem_cons_of_mem _ (List.mem_map.mpr ⟨m, hm, rfl⟩))]; exact h1, h2, h3.mono sm⟩
   exact this M fun m hm => hm
end
def mFollow (i k : Nat) (t1 : MT) (m2 : ME -> MR) (t2 : MT) (kc ka kb : Nat) : ME -> MS := fun ρ => if k < ρ.length then match ρ[i]? with
 | some (.v (.lst ds)) => match folO t1 m2 t2 kc ka kb ds (ρ.set k .no) [] with
  | some (ρ', N) => .ok (.rt (.v (nestD N)) ρ')
  | none => .stuck
 | _ => .stuck
 else .stuck
def Sem2At (G : Gd) (r : R2) (g : D -> D -> Option Slot) : Prop := ∀ {B : BxA} {Fr S : Hp} {ρ : ME} {σ : SV} {H : Hp} {x y : V} {d e : D} {s : Slot} {Q : VK},
 Ok G B Fr S ρ σ H -> Rep G S x d -> AtH G S H y e -> g d e = some s -> Wants G B Fr S ρ σ Q s -> r x y H Q
def mInV (g : D -> D -> Option Slot) (ma : ME -> MR) (k : Nat) : ME -> MR := fun ρ => frz (ma ρ) fun d ρ1 => match (slotD ρ1 k).bind (g d) with
 | some s => .ok (s, ρ1)
 | none => .stuck
theorem sem_opV {G : Gd} {W : WX} {r : R2} {g : D -> D -> Option Slot} (hg : Sem2At G r g) {ma : ME -> MR} {k : Nat} {σ : SV} {H : Hp} {Q : VK} (h : tM G W (mInV g ma k) σ H Q) : tOp r (tM G W ma) (tVar k) σ H Q := by
 obtain ⟨B, Fr, S, ρ, o, c⟩ := h
 refine opnd o c fun d ρ1 x S1 H1 e1 o1 r1 c1 => ?_
 cases q0 : slotD ρ1 k with
 | none => rw [q0] at c1; exact c1.elim
 | some e =>
  rw [q0] at c1
  obtain ⟨y, ey, ry⟩ := o1.slot q0
  have c2 : Cont G W B Fr S1 σ Q (match g d e with | some s => .ok (s, ρ1) | none => .stuck) := c1
  cases q : g d e with
  | none => rw [q] at c2; exact c2.elim
  | some s => rw [q] at c2; exact ⟨y, ey, hg o1 r1 ry q c2⟩
section
variable {X : Cx} {W : WX} {a : Expr} {ma : ME -> MR} {y : Str} {p1 pos : Pos} {op : CmpOp} {r : R2} {g : D -> D -> Option Slot}
theorem mt_inV (k : Nat) (ho : OpR X (compareOp op) r) (hg : Sem2At (gOf X) r g) (ha : PE X a (tM (gOf X) W ma)) (hN : X.N[k]? = some y := by rfl) (hv : Vis X.env.scope y := by first | exact Or.inl rfl | exact Or.inr (Or.inl rfl) | exact Or.inr (Or.inr rfl)) (hd : (y == ("__debug__" : Str)) = false := by decide) (hcd : (y == ("__classdict__" : Str)) = false := by decide)
    (hm : behindInMarks op (.Name y p1) = false := by first | exact nobehind _ (by decide) (by decide) | rfl) : PT X (.Compare a [op] [.Name y p1] pos) (tT (gOf X) W (mTst (mInV g ma k))) := PT.imp (pt_cmpR ho ha (pe_var hN hv hd hcd) hm) fun _ _ _ h => sem_opV hg (sem_tst h)
end
def maxI : List Int -> Option Int
 | [] => none
 | n :: ns => match maxI ns with
  | none => some n
  | some m => some (if n < m then m else n)
theorem maxI_none : ∀ {ns : List Int}, maxI ns = none -> ns = []
 | [], _ => rfl
 | n :: ns, h => by
  unfold maxI at h
  split at h <;> cases h
theorem maxI_ok : ∀ {ns : List Int} {m : Int}, maxI ns = some m -> m ∈ ns /\ ∀ y ∈ ns, y ≤ m
 | [], m, h => by cases h
 | n :: ns, m, h => by
  unfold maxI at h
  cases q : maxI ns with
  | none =>
   rw [q] at h
   cases h
   have e := maxI_none q
   subst e
   simp
  | some m' =>
   rw [q] at h
   obtain ⟨h1, h2⟩ := maxI_ok q
   cases h
   constructor
   ·split
    ·exact List.mem_cons_of_mem _ h1
    ·exact List.mem_cons_self
   ·intro y hy
    rcases List.mem_cons.mp hy with rfl | hy
    ·split <;> omega
    ·have := h2 y hy
     split <;> omega
def gMaxL : D -> Option Slot
 | .lst ds => (ints? ds).bind fun ns => (maxI ns).map fun m => .v (.int m)
 | _ => none
theorem Reps.erase {G : Gd} {S : Hp} : ∀ {vs : List V} {ds : List D} (n : Nat), Reps G S vs ds -> Reps G S (vs.eraseIdx n) (ds.eraseIdx n)
 | vs, [], n, r => by simp only [Reps] at r; subst r; exact Reps.nil
 | vs, d :: ds, n, r => by
  simp only [Reps] at r
  obtain ⟨x, vr, rfl, h, r⟩ := r
  cases n with
  | zero => exact r
  | succ n => exact Reps.cons h (Reps.erase n r)
structure InL where
 key : Int
 ad : Addr
 is : List Int
abbrev NL := List (Int × List Int)
def InL.nc (m : InL) : Int × List Int := (m.key, m.is)
def topL (M : List InL) : List (Key × V) := M.map fun m => (.inl m.key, V.ref m.ad)
structure NestL (G : Gd) (Fr S Fr' : Hp) (f : Addr) (M : List InL) : Prop where
 kn : (M.map InL.key).Nodup
 nd : (f :: M.map InL.ad).Nodup
 fr : ∀ b, b ∉ f :: M.map InL.ad -> Fr' b = Fr b
 new : ∀ b, b ∈ f :: M.map InL.ad -> Fr b = none /\ S b = none
 top : Fr' f = some (.dK (topL M))
 inn : ∀ m ∈ M, Fr' m.ad = some (.lst (m.is.map V.int))
def hasN (a : Int) (N : NL) : Bool := N.any fun n => n.1 == a
def addA (a : Int) (N : NL) : NL := if hasN a N then N else N ++ [(a, [])]
def stepB (a : Int) (N : NL) (b : Int) : NL := if b = a then N else N.map fun n => if n.1 = a then (n.1, if n.2.contains b then n.2 else n.2 ++ [b]) else n
def stepA (f : List Int) (N : NL) (a : Int) : NL := f.foldl (stepB a) (addA a N)
def stepF (N : NL) (f : List Int) : NL := f.foldl (stepA f) N
def nearI (fs : List (List Int)) : NL := fs.foldl stepF []
def szN (N : NL) : Nat := N.length + (N.map fun n => n.2.length).sum
theorem sum_le {α : Type} {f g : α -> Nat} : ∀ {L : List α}, (∀ x ∈ L, f x ≤ g x) -> (L.map f).sum ≤ (L.map g).sum
 | [], _ => Nat.le_refl _
 | x :: L, h => by
  have h1 := h x List.mem_cons_self
  have h2 := sum_le fun y hy => h y (List.mem_cons_of_mem x hy)
  simp only [List.map_cons, List.sum_cons]
  omega
theorem one_of {α β : Type} (f : α -> β) : ∀ (L : List α), (L.map f).Nodup -> ∀ x ∈ L, ∀ y ∈ L, f x = f y -> x = y := by
 intro L
 induction L with
 | nil => intro _ x hx; cases hx
 | cons a L ih =>
  intro nd x hx y hy e
  rw [List.map_cons, List.nodup_cons] at nd
  rcases List.mem_cons.mp hx with rfl | hx'
  ·rcases List.mem_cons.mp hy with rfl | hy'
   ·rfl
   ·exact absurd (List.mem_map.mpr ⟨y, hy', e.symm⟩) nd.1
  ·rcases List.mem_cons.mp hy with rfl | hy'
   ·exact absurd (List.mem_map.mpr ⟨x, hx', e⟩) nd.1
   ·exact ih nd.2 x hx' y hy' e
section
variable {G : Gd} {B : BxA} {Fr S Fr' : Hp} {ρ : ME} {σ : SV} {H : Hp} {f : Addr} {M : List InL}
theorem NestL.mono {S' : Hp} (n : NestL G Fr S Fr' f M) (e : Ext Fr' S S') : NestL G Fr S' Fr' f M := by
 refine ⟨n.kn, n.nd, n.fr, fun b hb => ⟨(n.new b hb).1, ?_⟩, n.top, n.inn⟩
 rcases List.mem_cons.mp hb with rfl | hb'
 ·exact e.fresh _ _ (n.new _ hb).2 n.top trivial
 ·obtain ⟨m, hm, rfl⟩ := List.mem_map.mp hb'
  exact e.fresh _ _ (n.new _ hb).2 (n.inn m hm) trivial
theorem NestL.ext {S' : Hp} (n : NestL G Fr S Fr' f M) (e : Ext Fr' S S') : Ext Fr S S' := e.anti fun b o hb hf nt => by
 refine ⟨o, ?_, nt⟩
 rw [n.fr b fun z => by rw [(n.new b z).1] at hf; cases hf]
 exact hf
theorem NestL.same {m : InL} {b : Int} (n : NestL G Fr S Fr' f M) (hm : m ∈ M) (hb : m.is.contains b = true \/ b = m.key) : M.map InL.nc = stepB m.key (M.map InL.nc) b := by
 unfold stepB
 split
 ·rfl
 ·rename_i hne
  have hb := hb.resolve_right hne
  rw [List.map_map]
  refine List.map_congr_left fun x hx => ?_
  show InL.nc x = if x.key = m.key then _ else _
  by_cases q : x.key = m.key
  ·rw [if_pos q]
   have ex := one_of InL.key M n.kn x hx m hm q
   subst ex
   show (x.key, x.is) = (x.key, if x.is.contains b then x.is else x.is ++ [b])
   rw [if_pos hb]
  ·rw [if_neg q]
def nearD (N : NL) : D := .dK (N.map fun n => .inl n.1) (N.map fun n => .lst (n.2.map D.int))
theorem reps_intsD {S : Hp} : ∀ is : List Int, Reps G S (is.map V.int) (is.map D.int)
 | [] => Reps.nil
 | i :: is => Reps.cons (by simp only [Rep]) (reps_intsD is)
theorem NestL.frz (n : NestL G Fr S Fr' f M) (o : Ok G B Fr' S ρ σ H) : ∃ S3, Ext Fr S S3 /\ Ok G B Fr S3 ρ σ H /\ Rep G S3 (.ref f) (nearD (M.map InL.nc)) := by
 have val : ∀ b, b ∈ f :: M.map InL.ad -> ∃ u, Fr' b = some u := fun b hb => by
  rcases List.mem_cons.mp hb with rfl | hb
  ·exact ⟨_, n.top⟩
  ·obtain ⟨m, hm, rfl⟩ := List.mem_map.mp hb
   exact ⟨_, n.inn m hm⟩
 have out : ∀ b u, Fr b = some u -> b ∉ f :: M.map InL.ad := fun b u e z => by rw [(n.new b z).1] at e; cases e
 have outS : ∀ b u, S b = some u -> b ∉ f :: M.map InL.ad := fun b u e z => by rw [(n.new b z).2] at e; cases e
 let S3 : Hp := fun b => if b ∈ f :: M.map InL.ad then Fr' b else S b
 have s_in : ∀ b, b ∈ f :: M.map InL.ad -> S3 b = Fr' b := fun b hb => if_pos hb
 have s_out : ∀ b, b ∉ f :: M.map InL.ad -> S3 b = S b := fun b hb => if_neg hb
 have sm : Same S S3 := fun b u e => by rw [s_out b (outS b u e)]; exact e
 refine ⟨S3, ⟨sm, fun b u hb hf _ => by rw [s_out b (out b u hf)]; exact hb⟩, ⟨fun b u e => o.fr b u (by rw [n.fr b (out b u e)]; exact e), fun b u e => ?_, o.len, fun i d e => ?_, fun i s d e hd => ?_, o.bx, o.inj, o.ce.heap sm (fun _ _ z => z) fun a u e1 e2 e3 _ _ => by
  have hb : a ∉ f :: M.map InL.ad := fun z => by obtain ⟨u, q⟩ := val a z; rw [e3] at q; cases q
  exact ⟨e1, by rw [s_out a hb]; exact e2, by rw [<- n.fr a hb]; exact e3⟩⟩, ?_⟩
 ·by_cases hb : b ∈ f :: M.map InL.ad
  ·rw [s_in b hb] at e
   exact .inl (o.fr b u e)
  ·rw [s_out b hb] at e
   exact (o.st b u e).imp id fun ⟨l, od, z, zf⟩ => ⟨l, od, z, by rw [<- n.fr b hb]; exact zf⟩
 ·obtain ⟨x, e1, r⟩ := o.vs i d e
  exact ⟨x, e1, r.mono sm⟩
 ·obtain ⟨a, u, e1, e2, r, e3, e4⟩ := o.ow i s d e hd
  have hb : a ∉ f :: M.map InL.ad := fun z => by obtain ⟨u, q⟩ := val a z; rw [e4] at q; cases q
  exact ⟨a, u, e1, e2, r.mono sm, by rw [s_out a hb]; exact e3, by rw [<- n.fr a hb]; exact e4⟩
 ·unfold nearD
  simp only [Rep]
  refine ⟨f, M.map fun m => V.ref m.ad, rfl, ?_, by simp, ?_⟩
  ·rw [s_in f List.mem_cons_self, n.top]
   have : ∀ L : List InL, topL L = ((L.map InL.nc).map fun n => (.inl n.1 : Key)).zip (L.map fun m => V.ref m.ad) := by
    intro L
    induction L with
    | nil => rfl
    | cons m L ih =>
     show ((.inl m.key : Key), V.ref m.ad) :: topL L = _
     rw [ih]; rfl
   rw [this]
  ·have : ∀ L : List InL, (∀ m ∈ L, m ∈ M) -> Reps G S3 (L.map fun m => V.ref m.ad) ((L.map InL.nc).map fun n => D.lst (n.2.map D.int)) := by
    intro L
    induction L with
    | nil => intro _; exact Reps.nil
    | cons m L ih =>
     intro hL
     refine Reps.cons ?_ (ih fun y hy => hL y (List.mem_cons_of_mem _ hy))
     have hm := hL m List.mem_cons_self
     show Rep G S3 (V.ref m.ad) (D.lst (m.is.map D.int))
     simp only [Rep]
     exact ⟨m.ad, m.is.map V.int, rfl, by rw [s_in _ (List.mem_cons_of_mem _ (List.mem_map.mpr ⟨m, hm, rfl⟩))]; exact n.inn m hm, reps_intsD _⟩
   exact this M fun m hm => hm
theorem wipeM_len : ∀ {vs : List Nat} {ρ : ME}, (wipeM ρ vs).length = ρ.length
 | [], ρ => rfl
 | v :: vs, ρ => by unfold wipeM; rw [List.length_set, wipeM_len]
end
section
variable {G : Gd} {B : BxA} {Fr S Fr' : Hp} {ρ : ME} {σ : SV} {H : Hp} {f : Addr} {M : List InL} {k kf ka kb : Nat} {a b : Int}
theorem NestL.small {m : InL} (hm : m ∈ M) : m.is.length ≤ szN (M.map InL.nc) := by
 unfold szN
 rw [List.map_map]
 have : ∀ {L : List InL}, m ∈ L -> m.is.length ≤ (L.map ((fun n : Int × List Int => n.2.length) ∘ InL.nc)).sum := by
  intro L
  induction L with
  | nil => intro h; cases h
  | cons x L ih =>
   intro h
   rw [List.map_cons, List.sum_cons]
   rcases List.mem_cons.mp h with rfl | h
   ·show _ ≤ m.is.length + _; omega
   ·have := ih h; omega
 have := this hm
 omega
structure Nr (G : Gd) (B : BxA) (Fr S0 : Hp) (ρ0 : ME) (f : Addr) (k kf ka kb : Nat) (S : Hp) (Fr' : Hp) (M : List InL) (ρ : ME) (σ : SV) (H : Hp) : Prop where
 e : Ext Fr S0 S
 n : NestL G Fr S Fr' f M
 o : Ok G B Fr' S ρ σ H
 hk : σ[k]? = some (some (.ref f))
 w : wipeM ρ [k, kf, ka, kb] = wipeM ρ0 [k, kf, ka, kb]
theorem Nr.len {S0 : Hp} {ρ0 : ME} (h : Nr G B Fr S0 ρ0 f k kf ka kb S Fr' M ρ σ H) : ρ.length = ρ0.length := by
 have := congrArg List.length h.w
 rwa [wipeM_len, wipeM_len] at this
end
theorem PI.or {X : Cx} {tg e : Expr} {t u : TI} (h1 : PI X tg e t) (h2 : PI X tg e u) : PI X tg e (fun σ H R => t σ H R \/ u σ H R) := ⟨fun pins s σ H R I h => h.elim (h1.run pins s σ H R I) (h2.run pins s σ H R I)⟩
def mItA (m : ME -> MR) : ME -> MI := fun ρ => frzI (m ρ) fun d ρ1 => match d with
 | .lst ds => .ok (ds, ρ1)
 | .tup ds => .ok (ds, ρ1)
 | .ktp ds => .ok (ds, ρ1)
 | _ => .stuck
def dat : Slot -> Option D
 | .v d => some d
 | .own d => some d
 | _ => none
def WR (r : MR) (Q : Slot -> ME -> Prop) : Prop := ∃ s ρ, r = .ok (s, ρ) /\ Q s ρ
abbrev WD (r : MR) (Q : D -> ME -> Prop) : Prop := WR r fun s ρ => ∃ d, dat s = some d /\ Q d ρ
def WB (r : MB) (Q : Bool -> ME -> Prop) : Prop := ∃ b ρ, r = .ok (b, ρ) /\ Q b ρ
def WL (r : ML) (Q : List D -> ME -> Prop) : Prop := ∃ b ρ, r = .ok (b, ρ) /\ Q b ρ
def WI (r : MI) (Q : List D -> ME -> Prop) : Prop := ∃ b ρ, r = .ok (b, ρ) /\ Q b ρ
def WS (r : MS) (Q : Fl -> Prop) : Prop := ∃ f, r = .ok f /\ Q f
def WO (r : Res (Option Int × ME)) (Q : Option Int -> ME -> Prop) : Prop := ∃ b ρ, r = .ok (b, ρ) /\ Q b ρ
section
variable {ρ : ME} {Q : Slot -> ME -> Prop} {QD : D -> ME -> Prop} {QB : Bool -> ME -> Prop} {QL QI : List D -> ME -> Prop} {QS : Fl -> Prop} {QO : Option Int -> ME -> Prop} {d : D} {i k n : Nat} {a b m mk : ME -> MR} {ms : ME -> ML} {mi : ME -> MI} {p q : ME -> MB} {s t : ME -> MS} {tg : MT} {g g' : D -> D -> Option Slot} {g1' : D -> Option Slot} {gl : List D -> Option Slot} {f : MF}
theorem WR.mono {r : MR} {Q' : Slot -> ME -> Prop} (h : WR r Q) (k : ∀ s ρ, Q s ρ -> Q' s ρ) : WR r Q' := by obtain ⟨s, ρ, e, q⟩ := h; exact ⟨s, ρ, e, k _ _ q⟩
theorem WS.mono {r : MS} {Q' : Fl -> Prop} (h : WS r QS) (k : ∀ f, QS f -> Q' f) : WS r Q' := by obtain ⟨f, e, q⟩ := h; exact ⟨f, e, k _ q⟩
theorem frz_ok {r : MR} {f : D -> ME -> MR} (h : WD r fun d ρ => WR (f d ρ) Q) : WR (frz r f) Q := by
 obtain ⟨s, ρ, rfl, d, e, q⟩ := h
 cases s <;> cases e <;> exact q
theorem frzS_ok {r : MR} {f : D -> ME -> MS} (h : WD r fun d ρ => WS (f d ρ) QS) : WS (frzS r f) QS := by
 obtain ⟨s, ρ, rfl, d, e, q⟩ := h
 cases s <;> cases e <;> exact q
theorem frzL_ok {r : MR} {f : D -> ME -> ML} (h : WD r fun d ρ => WL (f d ρ) QL) : WL (frzL r f) QL := by
 obtain ⟨s, ρ, rfl, d, e, q⟩ := h
 cases s <;> cases e <;> exact q
theorem frzI_ok {r : MR} {f : D -> ME -> MI} (h : WD r fun d ρ => WI (f d ρ) QI) : WI (frzI r f) QI := by
 obtain ⟨s, ρ, rfl, d, e, q⟩ := h
 cases s <;> cases e <;> exact q
theorem wr_v (e : ρ[i]? = some (.v d)) (h : Q (.v d) ρ) : WR (mVar i ρ) Q := ⟨_, _, by unfold mVar; rw [e], h⟩
theorem wr_o (e : ρ[i]? = some (.own d)) (h : Q (.v d) (ρ.set i (.v d))) : WR (mVar i ρ) Q := ⟨_, _, by unfold mVar; rw [e], h⟩
theorem wr_c (h : Q (.v d) ρ) : WR (mC d ρ) Q := ⟨_, _, rfl, h⟩
theorem wr_op (h : WD (a ρ) fun d ρ1 => WD (b ρ1) fun e ρ2 => ∃ s, g d e = some s /\ Q s ρ2) : WR (mOp g a b ρ) Q := by
 unfold mOp
 refine frz_ok ?_
 obtain ⟨s, ρ1, e, d, e2, h⟩ := h
 refine ⟨s, ρ1, e, d, e2, frz_ok ?_⟩
 obtain ⟨s3, ρ3, e3, d3, e4, r, e5, q⟩ := h
 exact ⟨s3, ρ3, e3, d3, e4, _, _, by rw [e5], q⟩
theorem wr_ix (h : WD (a ρ) fun d ρ1 => WD (b ρ1) fun e ρ2 => ∃ f, gIx d e = some f /\ Q (.v f) ρ2) : WR (mIx a b ρ) Q := by
 unfold mIx
 refine frz_ok ?_
 obtain ⟨s, ρ1, e, d, e2, h⟩ := h
 refine ⟨s, ρ1, e, d, e2, frz_ok ?_⟩
 obtain ⟨s3, ρ3, e3, d3, e4, r, e5, q⟩ := h
 exact ⟨s3, ρ3, e3, d3, e4, _, _, by rw [e5], q⟩
theorem wr_ixV (hd : slotD ρ i = some d) (h : WD (b ρ) fun e ρ2 => ∃ d2 f, slotD ρ2 i = some d2 /\ gIx d2 e = some f /\ Q (.v f) ρ2) : WR (mIxV i b ρ) Q := by
 unfold mIxV
 rw [hd]
 dsimp only
 refine frz_ok ?_
 obtain ⟨s3, ρ3, e3, d3, e4, d2, r, e5, e6, q⟩ := h
 exact ⟨s3, ρ3, e3, d3, e4, _, _, by simp only [e5, Option.bind_some, e6], q⟩
theorem wr_call1 (h : WD (a ρ) fun d ρ1 => ∃ s, g1' d = some s /\ Q s ρ1) : WR (mCall1 g1' a ρ) Q := by
 unfold mCall1
 refine frz_ok ?_
 obtain ⟨s, ρ1, e, d, e2, r, e3, q⟩ := h
 exact ⟨s, ρ1, e, d, e2, _, _, by rw [e3], q⟩
theorem wr_callV (hd : slotD ρ i = some d) (h : ∃ s, g1' d = some s /\ Q s ρ) : WR (mCallV g1' i ρ) Q := by
 obtain ⟨s, e, q⟩ := h
 refine ⟨s, ρ, ?_, q⟩
 unfold mCallV
 rw [hd]
 show (match g1' d with | some s => _ | none => _) = _
 rw [e]
theorem wl_nil (h : QL [] ρ) : WL (mNil ρ) QL := ⟨_, _, rfl, h⟩
theorem wl_cons (h : WD (a ρ) fun d ρ1 => WL (ms ρ1) fun ds ρ2 => QL (d :: ds) ρ2) : WL (mCons a ms ρ) QL := by
 unfold mCons
 refine frzL_ok ?_
 obtain ⟨s, ρ1, e, d, e2, ds, ρ2, e3, q⟩ := h
 exact ⟨s, ρ1, e, d, e2, _, _, by rw [e3]; rfl, q⟩
theorem wr_call (h : WL (ms ρ) fun ds ρ1 => ∃ s, gl ds = some s /\ Q s ρ1) : WR (mCall gl ms ρ) Q := by
 obtain ⟨ds, ρ1, e, s, e2, q⟩ := h
 refine ⟨s, ρ1, ?_, q⟩
 unfold mCall
 rw [e]
 show (match gl ds with | some s => _ | none => _) = _
 rw [e2]
theorem wr_tup (h : WL (ms ρ) fun ds ρ1 => Q (.v (.tup ds)) ρ1) : WR (mTup ms ρ) Q := by
 obtain ⟨ds, ρ1, e, q⟩ := h
 exact ⟨_, ρ1, by unfold mTup; rw [e]; rfl, q⟩
theorem wr_lst (h : WL (ms ρ) fun ds ρ1 => Q (.own (.lst ds)) ρ1) : WR (mLst ms ρ) Q := by
 obtain ⟨ds, ρ1, e, q⟩ := h
 exact ⟨_, ρ1, by unfold mLst; rw [e]; rfl, q⟩
theorem wb_tst (h : WR (a ρ) fun s ρ1 => ∃ b, s = .v (.bl b) /\ QB b ρ1) : WB (mTst a ρ) QB := by
 obtain ⟨s, ρ1, e, b, rfl, q⟩ := h
 exact ⟨b, ρ1, by unfold mTst; rw [e], q⟩
theorem wb_not (h : WB (p ρ) fun b ρ1 => QB (!b) ρ1) : WB (mNotB p ρ) QB := by
 obtain ⟨b, ρ1, e, q⟩ := h
 exact ⟨_, ρ1, by unfold mNotB; rw [e]; rfl, q⟩
theorem wb_and (h : WB (p ρ) fun b ρ1 => (b = true -> WB (q ρ1) QB) /\ (b = false -> QB false ρ1)) : WB (mAndB p q ρ) QB := by
 obtain ⟨b, ρ1, e, h1, h2⟩ := h
 cases b with
 | true =>
  obtain ⟨c, ρ2, e2, q⟩ := h1 rfl
  exact ⟨c, ρ2, by unfold mAndB; rw [e]; exact e2, q⟩
 | false => exact ⟨_, ρ1, by unfold mAndB; rw [e]; rfl, h2 rfl⟩
theorem wb_or (h : WB (p ρ) fun b ρ1 => (b = true -> QB true ρ1) /\ (b = false -> WB (q ρ1) QB)) : WB (mOrB p q ρ) QB := by
 obtain ⟨b, ρ1, e, h1, h2⟩ := h
 cases b with
 | false =>
  obtain ⟨c, ρ2, e2, q⟩ := h2 rfl
  exact ⟨c, ρ2, by unfold mOrB; rw [e]; exact e2, q⟩
 | true => exact ⟨_, ρ1, by unfold mOrB; rw [e]; rfl, h1 rfl⟩
theorem wr_andV (h : WB (mTst a ρ) fun b' ρ1 => (b' = true -> WR (b ρ1) Q) /\ (b' = false -> Q (.v (.bl false)) ρ1)) : WR (mAndV a b ρ) Q := by
 obtain ⟨c, ρ1, e, h1, h2⟩ := h
 cases c with
 | true =>
  obtain ⟨s, ρ2, e2, q⟩ := h1 rfl
  exact ⟨s, ρ2, by unfold mAndV; rw [e]; exact e2, q⟩
 | false => exact ⟨_, ρ1, by unfold mAndV; rw [e]; rfl, h2 rfl⟩
theorem wr_orV (h : WB (mTst a ρ) fun b' ρ1 => (b' = true -> Q (.v (.bl true)) ρ1) /\ (b' = false -> WR (b ρ1) Q)) : WR (mOrV a b ρ) Q := by
 obtain ⟨c, ρ1, e, h1, h2⟩ := h
 cases c with
 | false =>
  obtain ⟨s, ρ2, e2, q⟩ := h2 rfl
  exact ⟨s, ρ2, by unfold mOrV; rw [e]; exact e2, q⟩
 | true => exact ⟨_, ρ1, by unfold mOrV; rw [e]; rfl, h1 rfl⟩
theorem wr_notV (h : WB (mTst a ρ) fun b' ρ1 => Q (.v (.bl (!b'))) ρ1) : WR (mNotV a ρ) Q := by
 obtain ⟨c, ρ1, e, h1⟩ := h
 exact ⟨_, ρ1, by unfold mNotV; rw [e]; rfl, h1⟩
theorem ws_seq (h : WS (s ρ) fun f => match f with | .nx ρ1 => WS (t ρ1) QS | .rt x ρ1 => QS (.rt x ρ1) | .bk ρ1 => QS (.bk ρ1) | .ct ρ1 => QS (.ct ρ1)) : WS (mSeq s t ρ) QS := by
 obtain ⟨f, e, h⟩ := h
 cases f with
 | nx ρ1 =>
  obtain ⟨f2, e2, q⟩ := h
  exact ⟨f2, by unfold mSeq; rw [e]; exact e2, q⟩
 | rt x ρ1 => exact ⟨_, by unfold mSeq; rw [e], h⟩
 | bk ρ1 => exact ⟨_, by unfold mSeq; rw [e], h⟩
 | ct ρ1 => exact ⟨_, by unfold mSeq; rw [e], h⟩
theorem ws_if (h : WB (p ρ) fun b ρ1 => (b = true -> WS (s ρ1) QS) /\ (b = false -> WS (t ρ1) QS)) : WS (mIfS p s t ρ) QS := by
 obtain ⟨b, ρ1, e, h1, h2⟩ := h
 cases b with
 | true =>
  obtain ⟨f, e2, q⟩ := h1 rfl
  exact ⟨f, by unfold mIfS; rw [e]; exact e2, q⟩
 | false =>
  obtain ⟨f, e2, q⟩ := h2 rfl
  exact ⟨f, by unfold mIfS; rw [e]; exact e2, q⟩
theorem ws_skip (h : QS (.nx ρ)) : WS (mSkip ρ) QS := ⟨_, rfl, h⟩
theorem ws_drop (h : WD (a ρ) fun _ ρ1 => QS (.nx ρ1)) : WS (mDrop a ρ) QS := by
 unfold mDrop
 refine frzS_ok ?_
 obtain ⟨s, ρ1, e, d, e2, q⟩ := h
 exact ⟨s, ρ1, e, d, e2, _, rfl, q⟩
theorem ws_ret (h : WR (a ρ) fun s ρ1 => QS (.rt s ρ1)) : WS (mRet a ρ) QS := by
 obtain ⟨s, ρ1, e, q⟩ := h
 exact ⟨_, by unfold mRet; rw [e]; rfl, q⟩
theorem ws_set (h : WR (a ρ) fun s ρ1 => (∀ d, s ≠ .box d) /\ s ≠ .no /\ QS (.nx (ρ1.set i s))) : WS (mSet i a ρ) QS := by
 obtain ⟨s, ρ1, e, hb, hn, q⟩ := h
 cases s with
 | no => exact absurd rfl hn
 | pt _ => exact ⟨_, by unfold mSet; rw [e], q⟩
 | bor _ _ => exact ⟨_, by unfold mSet; rw [e], q⟩
 | hp _ => exact ⟨_, by unfold mSet; rw [e], q⟩
 | box d => exact absurd rfl (hb d)
 | v d => exact ⟨_, by unfold mSet; rw [e], q⟩
 | own d => exact ⟨_, by unfold mSet; rw [e], q⟩
theorem ws_asg (h : WD (a ρ) fun d ρ1 => ∃ ρ2, tg d ρ1 = some ρ2 /\ QS (.nx ρ2)) : WS (mAsg tg a ρ) QS := by
 unfold mAsg
 refine frzS_ok ?_
 obtain ⟨s, ρ1, e, d, e2, ρ2, e3, q⟩ := h
 exact ⟨s, ρ1, e, d, e2, _, by rw [e3], q⟩
theorem wr_app {ds : List D} (hk : heldAt ρ k = some (.lst ds)) (h : WD (a ρ) fun e ρ1 => ∃ ds1, heldAt ρ1 k = some (.lst ds1) /\ ds1.length < 1000000 /\ Q (.v .non) (putAt ρ1 k (.lst (ds1 ++ [e])))) : WR (mApp k a ρ) Q := by
 unfold mApp
 rw [hk]
 refine frz_ok ?_
 obtain ⟨s, ρ1, e, d, e2, ds1, e3, hl, q⟩ := h
 exact ⟨s, ρ1, e, d, e2, _, _, by rw [e3]; dsimp only; rw [if_pos hl], q⟩
theorem ws_for (h : WI (mi ρ) fun ds ρ1 => WS (mLoop tg s ds ρ1) QS) : WS (mFor mi tg s ρ) QS := by
 obtain ⟨ds, ρ1, e, f, e2, q⟩ := h
 exact ⟨f, by unfold mFor; rw [e]; exact e2, q⟩
theorem ws_loop (I : Nat -> ME -> Prop) {ds : List D} (h0 : I 0 ρ) (step : ∀ i (h : i < ds.length) ρ, I i ρ -> ∃ ρ1, tg ds[i] ρ = some ρ1 /\ WS (s ρ1) fun f => match f with | .nx ρ2 => I (i + 1) ρ2 | .ct ρ2 => I (i + 1) ρ2 | .bk ρ2 => QS (.nx ρ2) | .rt x ρ2 => QS (.rt x ρ2)) (fin : ∀ ρ, I ds.length ρ -> QS (.nx ρ)) : WS (mLoop tg s ds ρ) QS := by
 have key : ∀ (es : List D) (i : Nat) (ρ : ME), es = ds.drop i -> i ≤ ds.length -> I i ρ -> WS (mLoop tg s es ρ) QS := by
  intro es
  induction es with
  | nil =>
   intro i ρ e hi hI
   have : i = ds.length := by
    have := congrArg List.length e
    rw [List.length_drop, List.length_nil] at this
    omega
   subst this
   exact ⟨_, rfl, fin ρ hI⟩
  | cons d es ih =>
   intro i ρ e hi hI
   have hlt : i < ds.length := by
    have := congrArg List.length e
    rw [List.length_drop, List.length_cons] at this
    omega
   rw [List.drop_eq_getElem_cons hlt] at e
   obtain ⟨rfl, e'⟩ := List.cons.inj e
   obtain ⟨ρ1, e1, f, e2, q⟩ := step i hlt ρ hI
   cases f with
   | nx ρ2 =>
    obtain ⟨f3, e3, q3⟩ := ih (i + 1) ρ2 e' hlt q
    exact ⟨f3, by unfold mLoop; rw [e1]; dsimp only; rw [e2]; exact e3, q3⟩
   | ct ρ2 =>
    obtain ⟨f3, e3, q3⟩ := ih (i + 1) ρ2 e' hlt q
    exact ⟨f3, by unfold mLoop; rw [e1]; dsimp only; rw [e2]; exact e3, q3⟩
   | bk ρ2 => exact ⟨_, by unfold mLoop; rw [e1]; dsimp only; rw [e2], q⟩
   | rt x ρ2 => exact ⟨_, by unfold mLoop; rw [e1]; dsimp only; rw [e2], q⟩
 exact key ds 0 ρ rfl (Nat.zero_le _) h0
theorem wi_lst (h : WD (a ρ) fun d ρ1 => ∃ ds, d = .lst ds /\ QI ds ρ1) : WI (mItL a ρ) QI := by
 unfold mItL
 refine frzI_ok ?_
 obtain ⟨s, ρ1, e, d, e2, ds, rfl, q⟩ := h
 exact ⟨s, ρ1, e, _, e2, _, _, rfl, q⟩
theorem wi_any (h : WD (a ρ) fun d ρ1 => ∃ ds, (d = .lst ds \/ d = .tup ds \/ d = .ktp ds) /\ QI ds ρ1) : WI (mItA a ρ) QI := by
 unfold mItA
 refine frzI_ok ?_
 obtain ⟨s, ρ1, e, d, e2, ds, h, q⟩ := h
 rcases h with rfl | rfl | rfl <;> exact ⟨s, ρ1, e, _, e2, _, _, rfl, q⟩
theorem wi_tup (h : WD (a ρ) fun d ρ1 => ∃ ds, d = .tup ds /\ QI ds ρ1) : WI (mItT a ρ) QI := by
 unfold mItT
 refine frzI_ok ?_
 obtain ⟨s, ρ1, e, d, e2, ds, rfl, q⟩ := h
 exact ⟨s, ρ1, e, _, e2, _, _, rfl, q⟩
theorem wi_rng (h : WL (ms ρ) fun ds ρ1 => ∃ j, ds = [.int j] /\ smI j = true /\ QI (rngL 0 j.toNat) ρ1) : WI (mRng1 ms ρ) QI := by
 obtain ⟨ds, ρ1, e, j, rfl, hj, q⟩ := h
 refine ⟨_, ρ1, ?_, q⟩
 unfold mRng1
 rw [e]
 show (if smI j = true then _ else _) = _
 rw [if_pos hj]
theorem wr_fn' (h : WL (ms ρ) fun ds ρ1 => WR (f (ds.map .v)) fun s x => (∃ d, dat s = some d) /\ Q s ρ1) : WR (mFn f ms ρ) Q := by
 obtain ⟨ds, ρ1, e, s, x, e2, ⟨d, e3⟩, q⟩ := h
 refine ⟨s, ρ1, ?_, q⟩
 unfold mFn
 rw [e]
 show (match f (ds.map .v) with | .ok (.v d, _) => _ | .ok (.own d, _) => _ | .err c _ => _ | _ => _) = _
 rw [e2]
 cases s <;> first | rfl | cases e3
theorem wr_fnX {b0 : D} (hk : heldAt ρ k = some b0) (h : WL (ms ρ) fun ds ρ1 => ∃ b1, heldAt ρ1 k = some b1 /\ WR (f (.box b1 :: ds.map .v)) fun s x => (∃ d, dat s = some d) /\ ∃ b2 x', x = .box b2 :: x' /\ Q s (putAt ρ1 k b2)) : WR (mFnX f k ms ρ) Q := by
 obtain ⟨ds, ρ1, e, b1, e1, s, x, e2, ⟨d, e3⟩, b2, x', rfl, q⟩ := h
 refine ⟨s, _, ?_, q⟩
 unfold mFnX
 rw [hk]
 dsimp only
 rw [e]
 show (match heldAt ρ1 k with | none => _ | some b => _) = _
 rw [e1]
 dsimp only
 rw [e2]
 cases s <;> first | rfl | cases e3
theorem wr_fnM {args : List Slot} (h : WS (s (args ++ List.replicate n .no)) fun f => match f with | .rt x ρ1 => Q x ρ1 | .nx ρ1 => Q (.v .non) ρ1 | _ => False) : WR (fnM n s args) Q := by
 obtain ⟨f, e, q⟩ := h
 cases f with
 | nx ρ1 => exact ⟨_, _, by unfold fnM; rw [e], q⟩
 | rt x ρ1 => exact ⟨_, _, by unfold fnM; rw [e], q⟩
 | bk ρ1 => exact q.elim
 | ct ρ1 => exact q.elim
theorem wr_inV (h : WD (a ρ) fun d ρ1 => ∃ e s, slotD ρ1 k = some e /\ g d e = some s /\ Q s ρ1) : WR (mInV g a k ρ) Q := by
 unfold mInV
 refine frz_ok ?_
 obtain ⟨s, ρ1, e, d, e2, d2, r, e3, e4, q⟩ := h
 exact ⟨s, ρ1, e, d, e2, _, _, by simp only [e3, Option.bind_some, e4], q⟩
theorem ws_put (h : WD (b ρ) fun e ρ1 => ∃ d0, heldAt ρ1 k = some d0 /\ WD (a ρ1) fun i ρ2 => ∃ d1 d2, heldAt ρ2 k = some d1 /\ putD d1 i e = some d2 /\ QS (.nx (putAt ρ2 k d2))) : WS (mPut k a b ρ) QS := by
 unfold mPut
 refine frzS_ok ?_
 obtain ⟨s, ρ1, e, d, e2, d0, e3, h⟩ := h
 refine ⟨s, ρ1, e, d, e2, ?_⟩
 dsimp only
 rw [e3]
 dsimp only
 refine frzS_ok ?_
 obtain ⟨s4, ρ4, e4, d4, e5, d5, d6, e6, e7, q⟩ := h
 exact ⟨s4, ρ4, e4, d4, e5, _, by simp only [e6, Option.bind_some, e7], q⟩
theorem wr_newT (h : Q (.own (.dT [] [])) ρ) : WR (mNewT ρ) Q := ⟨_, _, rfl, h⟩
theorem wr_newK (h : Q (.own (.dK [] [])) ρ) : WR (mNewK ρ) Q := ⟨_, _, rfl, h⟩
theorem wr_lc {tt : ME -> MB} {me : ME -> MR} {vs : List Nat} (h : WI (mi ρ) fun ds ρ1 => vs.all (plain ρ1) = true /\ ds.length < 1000000 /\ ∃ acc ρ2, lcLoop tg tt me vs ds [] (wipeM ρ1 vs) = .ok (acc, ρ2) /\ Q (.own (.lst acc)) (putBack ρ1 ρ2 vs)) : WR (mLc mi tg tt me vs ρ) Q := by
 obtain ⟨ds, ρ1, e, hp, hl, acc, ρ2, e2, q⟩ := h
 refine ⟨_, _, ?_, q⟩
 unfold mLc
 rw [e]
 show (if (vs.all (plain ρ1) && decide (ds.length < 1000000)) = true then _ else _) = _
 rw [if_pos (by simp [hp, hl])]
 show (match lcLoop tg tt me vs ds [] (wipeM ρ1 vs) with | .ok (acc, ρ1') => _ | _ => _) = _
 rw [e2]
theorem lc_loop (I : Nat -> List D -> ME -> Prop) {tt : ME -> MB} {me : ME -> MR} {vs : List Nat} {ds : List D} (h0 : I 0 [] ρ) (step : ∀ i (h : i < ds.length) acc ρ, I i acc ρ -> ∃ ρ1, tg ds[i] ρ = some ρ1 /\ WB (tt ρ1) fun b ρ2 => (b = true -> WD (me ρ2) fun d ρ3 => I (i + 1) (acc ++ [d]) (wipeM ρ3 vs)) /\ (b = false -> I (i + 1) acc (wipeM ρ2 vs))) :
    ∃ acc ρ2, lcLoop tg tt me vs ds [] ρ = .ok (acc, ρ2) /\ I ds.length acc ρ2 := by
  have key : ∀ (es : List D) (i : Nat) (acc : List D) (ρ : ME), es = ds.drop i -> i ≤ ds.length -> I i acc ρ -> ∃ acc' ρ2, lcLoop tg tt me vs es acc ρ = .ok (acc', ρ2) /\ I ds.length acc' ρ2 := by
    intro es
    induction es with
    | nil =>
      intro i acc ρ e hi hI
      have : i = ds.length := by
        have := congrArg List.length e
        rw [List.length_drop, List.length_nil] at this
        omega
      subst this
      exact ⟨_, _, rfl, hI⟩
    | cons d es ih =>
      intro i acc ρ e hi hI
      have hlt : i < ds.length := by
        have := congrArg List.length e
        rw [List.length_drop, List.length_cons] at this
        omega
      rw [List.drop_eq_getElem_cons hlt] at e
      obtain ⟨rfl, e'⟩ := List.cons.inj e
      obtain ⟨ρ1, e1, b, ρ2, e2, q1, q2⟩ := step i hlt acc ρ hI
      cases b with
      | false =>
        obtain ⟨acc', ρ3, e3, q3⟩ := ih (i + 1) acc _ e' hlt (q2 rfl)
        exact ⟨acc', ρ3, by unfold lcLoop; rw [e1]; dsimp only; rw [e2]; exact e3, q3⟩
      | true =>
        obtain ⟨s, ρ4, e4, d, e5, q⟩ := q1 rfl
        obtain ⟨acc', ρ3, e3, q3⟩ := ih (i + 1) _ _ e' hlt q
        refine ⟨acc', ρ3, ?_, q3⟩
        unfold lcLoop
        rw [e1]
        dsimp only
        rw [e2]
        dsimp only
        rw [e4]
        cases s <;> cases e5 <;> exact e3
  exact key ds 0 [] ρ rfl (Nat.zero_le _) h0
theorem wr_slL {ml mh : ME -> Res (Option Int × ME)} (hd : slotD ρ i = some d) (h : WO (ml ρ) fun lo ρ2 => WO (mh ρ2) fun hi ρ3 => ∃ ds, slotD ρ3 i = some (.lst ds) /\ Q (.own (.lst (cutD ds lo hi))) ρ3) : WR (mSlV i ml mh ρ) Q := by
 obtain ⟨lo, ρ2, e3, hi, ρ3, e4, ds, e5, q⟩ := h
 refine ⟨_, ρ3, ?_, q⟩
 unfold mSlV
 rw [hd]
 dsimp only
 rw [e3]
 simp only [bnd, e4, e5]
theorem wr_slT {ml mh : ME -> Res (Option Int × ME)} (hd : slotD ρ i = some d) (h : WO (ml ρ) fun lo ρ2 => WO (mh ρ2) fun hi ρ3 => ∃ ds, slotD ρ3 i = some (.tup ds) /\ ρ3[i]? = some (.v (.tup ds)) /\ Q (.v (.tup (cutD ds lo hi))) ρ3) : WR (mSlV i ml mh ρ) Q := by
 obtain ⟨lo, ρ2, e3, hi, ρ3, e4, ds, e5, e6, q⟩ := h
 refine ⟨_, ρ3, ?_, q⟩
 unfold mSlV
 rw [hd]
 dsimp only
 rw [e3]
 simp only [bnd, e4, e5, e6]
end
theorem hu65_of {A : Around} {k : Nat} (hr : Room k A) : A.units + 65 < cLine := by have := hr.un; omega
def anyE (d : D) (ds : List D) : Bool := (D.pys ds).any fun z => PyData.eqv z d.py
def inA (d : D) : D -> Option Bool
 | .lst ds => if shp d && shp (.lst ds) then some (anyE d ds) else none
 | .tup ds => if shp d && shp (.tup ds) then some (anyE d ds) else none
 | e => inDic d e
def gInA (d e : D) : Option Slot := (inA d e).map fun b => .v (.bl b)
def gNotInA (d e : D) : Option Slot := (inA d e).map fun b => .v (.bl (!b))
def rInT (K : PySem.W.Frag) : R2 := fun x y H Q => ∃ d ds, Dp K H x d /\ Dp K H y (.tuple ds) /\ SeqAt.shaped d = true /\ SeqAt.shaped (.tuple ds) = true /\ Q (.bl (ds.any fun z => PyData.eqv z d)) H
def rNotInT (K : PySem.W.Frag) : R2 := fun x y H Q => ∃ d ds, Dp K H x d /\ Dp K H y (.tuple ds) /\ SeqAt.shaped d = true /\ SeqAt.shaped (.tuple ds) = true /\ Q (.bl (!ds.any fun z => PyData.eqv z d)) H
theorem room_in_shapedT {A : Around} {d : PyData} {ds : List PyData} (sd : SeqAt.shaped d = true) (hu : A.units + 65 < cLine) : A.units + 1 + min (PyData.depthAll ds) d.depth < cLine := by
 have h1 := SeqAt.depth_of_shaped sd
 have h2 : min (PyData.depthAll ds) d.depth ≤ d.depth := Nat.min_le_right _ _
 omega
section
variable {X : Cx}
theorem op_inT (hu : X.A.units + 65 < cLine) : OpR X (compareOp .In) (rInT X.K) := by
 intro pins s σ H x y v u Q I rx ry h
 obtain ⟨d, ds, hd, he, sd, se, q⟩ := h
 obtain ⟨as, r1⟩ := Dp.reads I d x v hd rx
 obtain ⟨bs, r2⟩ := Dp.reads I (.tuple ds) y u he ry
 exact SeqAt.in_tuple_reads r2 r1 (SeqAt.canLay_of_shaped se) (SeqAt.canLay_of_shaped sd) (room_in_shapedT sd hu) ⟨.bl _, H, I, rfl, q⟩
theorem op_notInT (hu : X.A.units + 65 < cLine) : OpR X (compareOp .NotIn) (rNotInT X.K) := by
 intro pins s σ H x y v u Q I rx ry h
 obtain ⟨d, ds, hd, he, sd, se, q⟩ := h
 obtain ⟨as, r1⟩ := Dp.reads I d x v hd rx
 obtain ⟨bs, r2⟩ := Dp.reads I (.tuple ds) y u he ry
 exact SeqAt.notIn_tuple_reads r2 r1 (SeqAt.canLay_of_shaped se) (SeqAt.canLay_of_shaped sd) (room_in_shapedT sd hu) ⟨.bl _, H, I, rfl, q⟩
def rInB (G : Gd) : R2 := fun x y H Q => rInA G id x y H Q \/ rInD G.K x y H Q \/ rInT G.K x y H Q
def rNotInB (G : Gd) : R2 := fun x y H Q => rInA G not x y H Q \/ rNotInD G.K x y H Q \/ rNotInT G.K x y H Q
theorem op_inAny (hu : X.A.units + 65 < cLine) : OpR X (compareOp .In) (rInB (gOf X)) := OpR.or (op_inA (by omega)) (OpR.or (op_inD hu) (op_inT hu))
theorem op_notInAny (hu : X.A.units + 65 < cLine) : OpR X (compareOp .NotIn) (rNotInB (gOf X)) := OpR.or (op_notInA (by omega)) (OpR.or (op_notInD hu) (op_notInT hu))
end
theorem inA_walk {G : Gd} {B : BxA} {Fr S : Hp} {ρ : ME} {σ : SV} {H : Hp} {x y : V} {d e : D} {b : Bool} (o : Ok G B Fr S ρ σ H) (rx : Rep G S x d) (ry : AtH G S H y e) (h : inA d e = some b) :
    (inDic d e = some b) \/ (∃ ds, e = .lst ds /\ Dp G.K H x d.py /\ Dp G.K H y (.list (D.pys ds)) /\ SeqAt.shaped d.py = true /\ SeqAt.shaped (.list (D.pys ds)) = true /\ b = (D.pys ds).any fun z => PyData.eqv z d.py) \/
    ∃ ds, e = .tup ds /\ Dp G.K H x d.py /\ Dp G.K H y (.tuple (D.pys ds)) /\ SeqAt.shaped d.py = true /\ SeqAt.shaped (.tuple (D.pys ds)) = true /\ b = (D.pys ds).any fun z => PyData.eqv z d.py := by
  cases e with
  | lst ds =>
    simp only [inA] at h
    split at h
    · rename_i c
      rw [Bool.and_eq_true] at c
      cases h
      refine .inr (.inl ⟨ds, rfl, o.dp rx (SeqAt.canLay_of_shaped c.1), ?_, c.1, c.2, rfl⟩)
      obtain ⟨a, vs, rfl, hs, rr⟩ := ry
      exact Dp.lst hs (o.dps rr (SeqAt.canLay_of_shaped c.2))
    · cases h
  | tup ds =>
    simp only [inA] at h
    split at h
    · rename_i c
      rw [Bool.and_eq_true] at c
      cases h
      refine .inr (.inr ⟨ds, rfl, o.dp rx (SeqAt.canLay_of_shaped c.1), ?_, c.1, c.2, rfl⟩)
      obtain ⟨a, vs, rfl, hs, rr⟩ := ry
      exact Dp.tup hs (o.dps rr (SeqAt.canLay_of_shaped c.2))
    · cases h
  | _ => exact .inl h
theorem sem_inAnyAt {G : Gd} : Sem2At G (rInB G) gInA := by
 intro B Fr S ρ σ H x y d e s Q o rx ry hg k
 unfold gInA at hg
 cases q : inA d e with
 | none => rw [q] at hg; cases hg
 | some b =>
  rw [q] at hg
  cases hg
  rcases inA_walk o rx ry q with q | ⟨ds, rfl, h1, h2, h3, h4, rfl⟩ | ⟨ds, rfl, h1, h2, h3, h4, rfl⟩
  ·exact .inl (in_walk id o rx ry q (k.bl o))
  ·exact .inr (.inl ⟨_, _, h1, h2, h3, h4, k.bl o⟩)
  ·exact .inr (.inr ⟨_, _, h1, h2, h3, h4, k.bl o⟩)
theorem sem_notInAnyAt {G : Gd} : Sem2At G (rNotInB G) gNotInA := by
 intro B Fr S ρ σ H x y d e s Q o rx ry hg k
 unfold gNotInA at hg
 cases q : inA d e with
 | none => rw [q] at hg; cases hg
 | some b =>
  rw [q] at hg
  cases hg
  rcases inA_walk o rx ry q with q | ⟨ds, rfl, h1, h2, h3, h4, rfl⟩ | ⟨ds, rfl, h1, h2, h3, h4, rfl⟩
  ·exact .inl (in_walk not o rx ry q (k.bl o))
  ·exact .inr (.inl ⟨_, _, h1, h2, h3, h4, k.bl o⟩)
  ·exact .inr (.inr ⟨_, _, h1, h2, h3, h4, k.bl o⟩)
theorem sem_inAny {G : Gd} : Sem2 G (rInB G) gInA := by
 intro B Fr S ρ σ H x y d e s Q o rx ry hg k
 exact sem_inAnyAt o rx (o.at ry) hg k
theorem sem_notInAny {G : Gd} : Sem2 G (rNotInB G) gNotInA := by
 intro B Fr S ρ σ H x y d e s Q o rx ry hg k
 exact sem_notInAnyAt o rx (o.at ry) hg k
def gListB : D -> Option Slot
 | .dT ks _ => some (.own (.lst (ks.map fun k => .tup (k.map kD))))
 | d => gListA d
def rListT : List V -> Hp -> VK -> Prop := fun xs H Q => ∃ d kvs, xs = [V.ref d] /\ Rd H d (.dT kvs) /\ ∀ p bs, H p = none -> IsKeys H kvs bs -> Q (.ref p) (upd H p (.lst (bs.map V.ref)))
def rListB (K : PySem.W.Frag) : List V -> Hp -> VK -> Prop := fun xs H Q => rListA K xs H Q \/ rListT xs H Q
theorem cr_listB {X : Cx} (hc : X.calm = true) : CallR X (.type "list") (rListB X.K) := fun pins s σ H vs us Q I r h => h.elim (cr_listA hc pins s σ H vs us Q I r) (call_list_dT hc pins s σ H vs us Q I r)
theorem keys_in {G : Gd} {B : BxA} {Fr : Hp} {ρ : ME} {σ : SV} {H : Hp} {kvs : List (List Key × V)} {bs : List Addr} (r : IsKeys H kvs bs) : ∀ {S : Hp}, Ok G B Fr S ρ σ H -> ∃ S', Ext Fr S S' /\ Ok G B Fr S' ρ σ H /\ Reps G S' (bs.map V.ref) (kvs.map fun p => .tup (p.1.map kD)) := by
 unfold IsKeys at r
 induction r with
 | nil => exact fun {S} o => ⟨S, Ext.refl, o, Reps.nil⟩
 | @cons p b l1 l2 h t ih =>
  intro S o
  obtain ⟨S1, e1, o1, r1⟩ := ih o
  obtain ⟨S2, e2, o2, r2⟩ := o1.addTup h
  refine ⟨S2, e1.trans e2, o2, Reps.cons ?_ (r1.mono e2.same)⟩
  simp only [Rep]
  exact ⟨b, _, rfl, r2, reps_kD _⟩
theorem sem_listB {G : Gd} : SemC1 G (rListB G.K) gListB := by
 intro B Fr S ρ σ H x d s Q o rx hg k
 by_cases hd : ∃ ks vs, d = .dT ks vs
 ·obtain ⟨ks, vs, rfl⟩ := hd
  cases hg
  obtain ⟨a, us, rfl, h, l, r⟩ := rx
  refine .inr ⟨a, _, rfl, h, fun p bs hp hk => ?_⟩
  obtain ⟨S1, e1, o1, r1⟩ := keys_in hk o
  have e : ((ks.zip us).map fun kv => D.tup (kv.1.map kD)) = ks.map fun k => D.tup (k.map kD) := by
   have z := congrArg (List.map fun k : List Key => D.tup (k.map kD)) (zip_fst (ks := ks) (vs := us) l.symm)
   rw [List.map_map] at z
   exact z
  rw [e] at r1
  exact Wants.lst (fun x S' H' e' o' => k x S' H' (e1.trans e') o') o1 r1 hp
 ·have hg' : gListA d = some s := by
   cases d <;> first | exact hg | exact absurd ⟨_, _, rfl⟩ hd
  exact .inl (sem_listA o rx hg' k)
def Slot.mine : Slot -> Bool
 | .own _ => true
 | .box _ => true
 | .bor _ _ => true
 | .hp _ => true
 | _ => false
def mVarO (i : Nat) : ME -> MR := fun ρ => match ρ[i]? with
 | some (.v d) => .ok (.v d, ρ)
 | some (.own d) => .ok (.own d, ρ.set i .no)
 | _ => .stuck
section
variable {ρ : ME} {Q : Slot -> ME -> Prop} {QD : D -> ME -> Prop} {QB : Bool -> ME -> Prop} {QL QI : List D -> ME -> Prop} {QS : Fl -> Prop} {QO : Option Int -> ME -> Prop} {d : D} {i k n : Nat} {a b c m mk : ME -> MR} {ms : ME -> ML} {mi : ME -> MI} {p q : ME -> MB} {s t : ME -> MS} {tg : MT} {g g' : D -> D -> Option Slot} {g1' : D -> Option Slot} {gl : List D -> Option Slot} {f : MF} {T : CTab} {x : Str}
theorem WB.mono {r : MB} {Q' : Bool -> ME -> Prop} (h : WB r QB) (k : ∀ s ρ, QB s ρ -> Q' s ρ) : WB r Q' := by obtain ⟨s, ρ, e, q⟩ := h; exact ⟨s, ρ, e, k _ _ q⟩
theorem WL.mono {r : ML} {Q' : List D -> ME -> Prop} (h : WL r QL) (k : ∀ s ρ, QL s ρ -> Q' s ρ) : WL r Q' := by obtain ⟨s, ρ, e, q⟩ := h; exact ⟨s, ρ, e, k _ _ q⟩
theorem WI.mono {r : MI} {Q' : List D -> ME -> Prop} (h : WI r QI) (k : ∀ s ρ, QI s ρ -> Q' s ρ) : WI r Q' := by obtain ⟨s, ρ, e, q⟩ := h; exact ⟨s, ρ, e, k _ _ q⟩
theorem wb_yes (h : QB true ρ) : WB (mYes ρ) QB := ⟨_, _, rfl, h⟩
theorem wr_chain (h : WD (a ρ) fun d ρ1 => WD (b ρ1) fun e ρ2 => ∃ r, g d e = some (.v (.bl r)) /\ (r = false -> Q (.v (.bl false)) ρ2) /\ (r = true -> WD (c ρ2) fun z ρ3 => ∃ s, g' e z = some s /\ Q s ρ3)) : WR (mChain g g' a b c ρ) Q := by
 unfold mChain
 refine frz_ok ?_
 obtain ⟨s, ρ1, e, d, e2, h⟩ := h
 refine ⟨s, ρ1, e, d, e2, frz_ok ?_⟩
 obtain ⟨s3, ρ3, e3, d3, e4, r, e5, q1, q2⟩ := h
 refine ⟨s3, ρ3, e3, d3, e4, ?_⟩
 dsimp only
 rw [e5]
 cases r with
 | false => exact ⟨_, _, rfl, q1 rfl⟩
 | true =>
  refine frz_ok ?_
  obtain ⟨s6, ρ6, e6, d6, e7, r6, e8, q⟩ := q2 rfl
  exact ⟨s6, ρ6, e6, d6, e7, _, _, by rw [e8], q⟩
theorem wr_fldV {e : D} (hd : slotD ρ i = some d) (he : gFld T x d = some e) (h : Q (.v e) ρ) : WR (mFldV T x i ρ) Q := ⟨_, ρ, by unfold mFldV; simp only [hd, Option.bind_some, he], h⟩
theorem ws_fldS (h : WD (a ρ) fun e ρ1 => ∃ c ns ds, heldAt ρ1 k = some (.ins c ns ds) /\ hasF T c x = true /\ ns.length < 900 /\ QS (.nx (putAt ρ1 k (.ins c (putNs x ns) (putDs x e ns ds))))) : WS (mFldS T k x a ρ) QS := by
 unfold mFldS
 refine frzS_ok ?_
 obtain ⟨s, ρ1, e, d, e2, c, ns, ds, e3, h1, h2, q⟩ := h
 refine ⟨s, ρ1, e, d, e2, _, ?_, q⟩
 rw [e3]
 simp only [h1, h2, decide_true, Bool.and_self, if_true]
theorem wr_methO {ml : List (Str × MF)} (hd : ρ[k]? = some (.own d) \/ ρ[k]? = some (.box d)) (hp : pickM ml x d = some f) (h : WL (ms ρ) fun ds ρ1 => ∃ b1, heldAt ρ1 k = some b1 /\ WR (f (.box b1 :: ds.map .v)) fun s r => (∃ e, dat s = some e) /\ ∃ b2 r', r = .box b2 :: r' /\ Q s (putAt ρ1 k b2)) : WR (mMethV ml x k ms ρ) Q := by
 obtain ⟨ds, ρ1, e, b1, e1, s, r, e2, ⟨e', e3⟩, b2, r', rfl, q⟩ := h
 refine ⟨s, _, ?_, q⟩
 have hh : heldAt ρ k = some d := by unfold heldAt; rcases hd with hd | hd <;> rw [hd]
 unfold mMethV
 rcases hd with hd | hd <;> (
  rw [hd]
  dsimp only
  rw [hh]
  simp only [Option.bind_some, hp]
  rw [e]
  show (match heldAt ρ1 k with | some b => _ | none => _) = _
  rw [e1]
  dsimp only
  rw [e2]
  cases s <;> first | rfl | cases e3)
theorem wr_make {ar : List D -> List D -> List D} {mk : ME -> ML} (h : WL (ms ρ) fun ds ρ1 => WL (mk ρ1) fun es ρ2 => WR (f (.box (.ins x [] []) :: (ar ds es).map .v)) fun s r => s = .v .non /\ ∃ b2 r', r = .box b2 :: r' /\ Q (.own b2) ρ2) : WR (mMake x ar f ms mk ρ) Q := by
 obtain ⟨ds, ρ1, e, es, ρ2, e2, s, r, e3, rfl, b2, r', rfl, q⟩ := h
 refine ⟨.own b2, ρ2, ?_, q⟩
 unfold mMake
 rw [e]
 show bnd (mk ρ1) _ = _
 rw [e2]
 show resM (f (.box (.ins x [] []) :: (ar ds es).map .v)) ρ2 = _
 rw [e3]
 rfl
theorem wr_sortSet (h : WD (a ρ) fun d ρ1 => ∃ ns : List Int, d = .lst (ns.map .int) /\ ns.length < 60 /\ Q (.own (.lst ((sortU ns).map .int))) ρ1) : WR (mSortSet a ρ) Q := by
 unfold mSortSet
 refine frz_ok ?_
 obtain ⟨s, ρ1, e, d, e2, ns, rfl, hl, q⟩ := h
 refine ⟨s, ρ1, e, _, e2, _, _, ?_, q⟩
 have : ints? (ns.map D.int) = some ns := by
  clear hl q e2
  induction ns with
  | nil => rfl
  | cons n ns ih => rw [List.map_cons, ints?, ih]; rfl
 dsimp only
 rw [this]
 dsimp only
 rw [if_pos hl]
theorem wr_lcK {mm : ME -> Option D} {dd : D} {ds : List D} {tt : ME -> MB} {me : ME -> MR} {vs : List Nat} (hm : mm ρ = some dd) (hk : keysD dd = some ds) (hp : vs.all (plain ρ) = true) (hl : ds.length < 1000000) (h : ∃ acc ρ2, lcLoop tg tt me vs ds [] (wipeM ρ vs) = .ok (acc, ρ2) /\ Q (.own (.lst acc)) (putBack ρ ρ2 vs)) : WR (mLcK mm tg tt me vs ρ) Q := by
 obtain ⟨acc, ρ2, e2, q⟩ := h
 refine ⟨_, _, ?_, q⟩
 unfold mLcK lcTail
 simp only [hm, Option.bind_some, hk, hp, hl, decide_true, Bool.and_self, if_true, e2]
theorem ws_forK {mm : ME -> Option D} {dd : D} {ds : List D} (hm : mm ρ = some dd) (hk : keysD dd = some ds) (h : WS (mLoop tg s ds ρ) QS) : WS (mForK mm tg s ρ) QS := by
 obtain ⟨f, e, q⟩ := h
 refine ⟨f, ?_, q⟩
 unfold mForK
 simp only [hm, Option.bind_some, hk, e]
 rfl
theorem cp_loop {α : Type} (I : Nat -> α -> ME -> Prop) {tt : ME -> MB} {st : α -> ME -> Res (α × ME)} {vs : List Nat} {ds : List D} {a0 : α} (h0 : I 0 a0 ρ) (step : ∀ i (h : i < ds.length) acc ρ, I i acc ρ -> ∃ ρ1, tg ds[i] ρ = some ρ1 /\ WB (tt ρ1) fun b ρ2 => (b = true -> ∃ acc' ρ3, st acc ρ2 = .ok (acc', ρ3) /\ I (i + 1) acc' (wipeM ρ3 vs)) /\ (b = false -> I (i + 1) acc (wipeM ρ2 vs))) :
    ∃ acc ρ2, cpLoop tg tt st vs ds a0 ρ = .ok (acc, ρ2) /\ I ds.length acc ρ2 := by
  have key : ∀ (es : List D) (i : Nat) (acc : α) (ρ : ME), es = ds.drop i -> i ≤ ds.length -> I i acc ρ -> ∃ acc' ρ2, cpLoop tg tt st vs es acc ρ = .ok (acc', ρ2) /\ I ds.length acc' ρ2 := by
    intro es
    induction es with
    | nil =>
      intro i acc ρ e hi hI
      have : i = ds.length := by
        have := congrArg List.length e
        rw [List.length_drop, List.length_nil] at this
        omega
      subst this
      exact ⟨_, _, rfl, hI⟩
    | cons d es ih =>
      intro i acc ρ e hi hI
      have hlt : i < ds.length := by
        have := congrArg List.length e
        rw [List.length_drop, List.length_cons] at this
        omega
      rw [List.drop_eq_getElem_cons hlt] at e
      obtain ⟨rfl, e'⟩ := List.cons.inj e
      obtain ⟨ρ1, e1, b, ρ2, e2, q1, q2⟩ := step i hlt acc ρ hI
      cases b with
      | false =>
        obtain ⟨acc', ρ3, e3, q3⟩ := ih (i + 1) acc _ e' hlt (q2 rfl)
        exact ⟨acc', ρ3, by unfold cpLoop; rw [e1]; dsimp only; rw [e2]; exact e3, q3⟩
      | true =>
        obtain ⟨acc1, ρ4, e4, q⟩ := q1 rfl
        obtain ⟨acc', ρ3, e3, q3⟩ := ih (i + 1) _ _ e' hlt q
        refine ⟨acc', ρ3, ?_, q3⟩
        unfold cpLoop
        rw [e1]
        dsimp only
        rw [e2]
        dsimp only
        rw [e4]
        exact e3
  exact key ds 0 a0 ρ rfl (Nat.zero_le _) h0
theorem wr_dc {a0 : D} {tt : ME -> MB} {mv : ME -> MR} {vs : List Nat} (h : WI (mi ρ) fun ds ρ1 => vs.all (plain ρ1) = true /\ ∃ acc ρ2, cpLoop tg tt (dcStep mk mv) vs ds a0 (wipeM ρ1 vs) = .ok (acc, ρ2) /\ Q (.own acc) (putBack ρ1 ρ2 vs)) : WR (mDc a0 mi tg tt mk mv vs ρ) Q := by
 obtain ⟨ds, ρ1, e, hp, acc, ρ2, e2, q⟩ := h
 refine ⟨_, _, ?_, q⟩
 unfold mDc
 rw [e]
 show dcTail a0 tg tt mk mv vs (ds, ρ1) = _
 unfold dcTail
 simp only [hp, if_true, e2]
theorem wr_dcK {mm : ME -> Option D} {dd : D} {ds : List D} {a0 : D} {tt : ME -> MB} {mv : ME -> MR} {vs : List Nat} (hm : mm ρ = some dd) (hk : keysD dd = some ds) (hp : vs.all (plain ρ) = true) (h : ∃ acc ρ2, cpLoop tg tt (dcStep mk mv) vs ds a0 (wipeM ρ vs) = .ok (acc, ρ2) /\ Q (.own acc) (putBack ρ ρ2 vs)) : WR (mDcK a0 mm tg tt mk mv vs ρ) Q := by
 obtain ⟨acc, ρ2, e2, q⟩ := h
 refine ⟨_, _, ?_, q⟩
 unfold mDcK dcTail
 simp only [hm, Option.bind_some, hk, hp, if_true, e2]
theorem wp_dc {mv : ME -> MR} {acc : D} {P : D -> ME -> Prop} (h : WD (mk ρ) fun k ρ1 => WD (mv ρ1) fun e ρ2 => ∃ a', putD acc k e = some a' /\ P a' ρ2) : ∃ acc' ρ3, dcStep mk mv acc ρ = .ok (acc', ρ3) /\ P acc' ρ3 := by
 obtain ⟨s, ρ1, e, k, e2, s2, ρ2, e3, v, e4, a', e5, q⟩ := h
 refine ⟨a', ρ2, ?_, q⟩
 unfold dcStep
 rw [e]
 cases s with
 | v d =>
  cases e2
  show frzA (mv ρ1) _ = _
  rw [e3]
  cases s2 with
  | v d2 => cases e4; show (match putD acc k v with | some a => Res.ok (a, ρ2) | none => Res.stuck) = _; rw [e5]
  | own d2 => cases e4; show (match putD acc k v with | some a => Res.ok (a, ρ2) | none => Res.stuck) = _; rw [e5]
  | _ => cases e4
 | own d =>
  cases e2
  show frzA (mv ρ1) _ = _
  rw [e3]
  cases s2 with
  | v d2 => cases e4; show (match putD acc k v with | some a => Res.ok (a, ρ2) | none => Res.stuck) = _; rw [e5]
  | own d2 => cases e4; show (match putD acc k v with | some a => Res.ok (a, ρ2) | none => Res.stuck) = _; rw [e5]
  | _ => cases e4
 | _ => cases e2
theorem wr_sortScK {mm : ME -> Option D} {dd : D} {ds : List D} {tt : ME -> MB} {me : ME -> MR} {vs : List Nat} (hm : mm ρ = some dd) (hk : keysD dd = some ds) (hp : vs.all (plain ρ) = true) (h : ∃ acc ρ2, cpLoop tg tt (scStep me) vs ds [] (wipeM ρ vs) = .ok (acc, ρ2) /\ acc.all in64 = true /\ Q (.own (.lst ((sortP acc).map pD))) (putBack ρ ρ2 vs)) : WR (mSortScK mm tg tt me vs ρ) Q := by
 obtain ⟨acc, ρ2, e2, h3, q⟩ := h
 refine ⟨_, _, ?_, q⟩
 unfold mSortScK scTail
 simp only [hm, Option.bind_some, hk, hp, if_true, e2, h3]
theorem wp_sc {me : ME -> MR} {acc : List IP} {P : List IP -> ME -> Prop} (h : WD (me ρ) fun e ρ1 => ∃ pp, e = pD pp /\ acc.length < 1000 /\ P (if pp ∈ acc then acc else acc ++ [pp]) ρ1) : ∃ acc' ρ3, scStep me acc ρ = .ok (acc', ρ3) /\ P acc' ρ3 := by
 obtain ⟨s, ρ1, e, k, e2, pp, rfl, hl, q⟩ := h
 refine ⟨_, ρ1, ?_, q⟩
 unfold scStep
 rw [e]
 have : pair? (pD pp) = some pp := rfl
 cases s with
 | v d =>
  cases e2
  show (match pair? (pD pp) with | some p => (if acc.length < 1000 then Res.ok (if p ∈ acc then acc else acc ++ [p], ρ1) else Res.stuck) | none => Res.stuck) = _
  rw [this]
  dsimp only
  rw [if_pos hl]
 | own d =>
  cases e2
  show (match pair? (pD pp) with | some p => (if acc.length < 1000 then Res.ok (if p ∈ acc then acc else acc ++ [p], ρ1) else Res.stuck) | none => Res.stuck) = _
  rw [this]
  dsimp only
  rw [if_pos hl]
 | _ => cases e2
theorem ws_whileN (I : Nat -> ME -> Prop) {cc : ME -> MB} {m0 : Nat} (h0 : I m0 ρ) (hn : m0 < n) (step : ∀ m ρ, I m ρ -> WB (cc ρ) fun b ρ1 => (b = true -> WS (s ρ1) fun f => match f with | .nx ρ2 => ∃ m', m' < m /\ I m' ρ2 | _ => False) /\ (b = false -> QS (.nx ρ1))) : WS (mWN cc s n ρ) QS := by
 induction n generalizing ρ m0 with
 | zero => omega
 | succ n ih =>
  obtain ⟨b, ρ1, e, h1, h2⟩ := step m0 ρ h0
  cases b with
  | false => exact ⟨_, by unfold mWN; rw [e], h2 rfl⟩
  | true =>
   obtain ⟨f, e2, q⟩ := h1 rfl
   cases f with
   | nx ρ2 =>
    obtain ⟨m', hm, hI⟩ := q
    obtain ⟨f, e3, q⟩ := ih hI (by omega)
    exact ⟨f, by unfold mWN; rw [e]; dsimp only; rw [e2]; exact e3, q⟩
   | _ => exact q.elim
theorem lc_pure {tt : ME -> MB} {me : ME -> MR} {vs : List Nat} {ds : List D} {ff : D -> D} {pp : D -> Bool} (h : ∀ d ∈ ds, ∃ ρ1, tg d ρ = some ρ1 /\ WB (tt ρ1) fun b ρ2 => b = pp d /\ (b = true -> WD (me ρ2) fun e ρ3 => e = ff d /\ wipeM ρ3 vs = ρ) /\ (b = false -> wipeM ρ2 vs = ρ)) :
    lcLoop tg tt me vs ds [] ρ = .ok ((ds.filter pp).map ff, ρ) := by
  obtain ⟨acc, ρ2, e, h1, h2⟩ := lc_loop (ρ := ρ) (tg := tg) (tt := tt) (me := me) (vs := vs) (ds := ds) (fun i acc ρ' => acc = ((ds.take i).filter pp).map ff /\ ρ' = ρ) ⟨by simp, rfl⟩ fun i hi acc ρ' ⟨ea, er⟩ => by
    subst er
    obtain ⟨ρ1, e1, hb⟩ := h ds[i] (List.getElem_mem hi)
    refine ⟨ρ1, e1, hb.mono fun b ρ2 hb => ⟨fun e => ?_, fun e => ?_⟩⟩
    · obtain ⟨h0, h1, _⟩ := hb
      refine WR.mono (h1 e) fun s ρ3 ⟨d, ed, e5, e6⟩ => ⟨d, ed, ?_, e6⟩
      rw [ea, List.take_succ_eq_append_getElem hi, List.filter_append, List.map_append, e5]
      congr 1
      simp [<- h0, e]
    · obtain ⟨h0, _, h1⟩ := hb
      refine ⟨?_, h1 e⟩
      rw [ea, List.take_succ_eq_append_getElem hi, List.filter_append, List.map_append]
      simp [<- h0, e]
  rw [e, h1, h2, List.take_length]
theorem lc_all {me : ME -> MR} {vs : List Nat} {ds : List D} {ff : D -> D} (h : ∀ d ∈ ds, ∃ ρ1, tg d ρ = some ρ1 /\ WD (me ρ1) fun e ρ3 => e = ff d /\ wipeM ρ3 vs = ρ) :
    lcLoop tg mYes me vs ds [] ρ = .ok (ds.map ff, ρ) := by
  have := lc_pure (ρ := ρ) (tg := tg) (tt := mYes) (me := me) (vs := vs) (ds := ds) (ff := ff) (pp := fun _ => true) fun d hd => by
    obtain ⟨ρ1, e1, h1⟩ := h d hd
    exact ⟨ρ1, e1, wb_yes ⟨rfl, fun _ => h1, fun e => by cases e⟩⟩
  rw [this, List.filter_eq_self.mpr fun _ _ => rfl]
end
theorem ex_held {P : D -> Prop} {ρ : ME} {k : Nat} {d : D} (e : heldAt ρ k = some d) (h : P d) : ∃ d, heldAt ρ k = some d /\ P d := ⟨d, e, h⟩
theorem ex_bl {P : Bool -> Prop} {b : Bool} (h : P b) : ∃ c, Slot.v (D.bl b) = Slot.v (D.bl c) /\ P c := ⟨b, rfl, h⟩
theorem ex_lst {P : List D -> Prop} {b : List D} (h : P b) : ∃ c, D.lst b = D.lst c /\ P c := ⟨b, rfl, h⟩
theorem dat_v {d : D} : dat (.v d) = some d := rfl
theorem dat_o {d : D} : dat (.own d) = some d := rfl
theorem gGt_ii {i j : Int} : gGt (.int i) (.int j) = some (.v (.bl (decide (j < i)))) := rfl
theorem gEq_ii {i j : Int} : gEq (.int i) (.int j) = some (.v (.bl (decide (i = j)))) := rfl
theorem gMin2_ii {i j : Int} : g2 gMin2 [.int i, .int j] = some (.v (.int (if j < i then j else i))) := rfl
theorem gMax2_ii {i j : Int} : g2 gMax2 [.int i, .int j] = some (.v (.int (if j > i then j else i))) := rfl
def isVO : Slot -> Bool
 | .v _ => true
 | .own _ => true
 | _ => false
theorem ws_set1 {ρ : ME} {QS : Fl -> Prop} {i : Nat} {a : ME -> MR} (h : WR (a ρ) fun s ρ1 => isVO s = true /\ QS (.nx (ρ1.set i s))) : WS (mSet i a ρ) QS := ws_set (h.mono fun s ρ1 h => ⟨(fun d e => by rw [e] at h; cases h.1), (fun e => by rw [e] at h; cases h.1), h.2⟩)
section
variable {ρ : ME} {Q : Slot -> ME -> Prop} {QS : Fl -> Prop} {tg : MT} {mi : ME -> MI} {tt : ME -> MB} {me mk mv : ME -> MR} {vs : List Nat} {s : ME -> MS}
theorem wr_lcI (h : WI (mi ρ) fun ds ρ1 => vs.all (plain ρ1) = true /\ ds.length < 1000000 /\ ∃ I : Nat -> List D -> ME -> Prop, I 0 [] (wipeM ρ1 vs) /\
    (∀ i (h : i < ds.length) acc ρ, I i acc ρ -> ∃ ρ1, tg ds[i] ρ = some ρ1 /\ WB (tt ρ1) fun b ρ2 => (b = true -> WD (me ρ2) fun d ρ3 => I (i + 1) (acc ++ [d]) (wipeM ρ3 vs)) /\ (b = false -> I (i + 1) acc (wipeM ρ2 vs))) /\
    ∀ acc ρ2, I ds.length acc ρ2 -> Q (.own (.lst acc)) (putBack ρ1 ρ2 vs)) : WR (mLc mi tg tt me vs ρ) Q := by
  refine wr_lc (h.mono fun ds ρ1 ⟨h1, h2, I, h3, h4, h5⟩ => ?_)
  obtain ⟨acc, ρ2, e, q⟩ := lc_loop I h3 h4
  exact ⟨h1, h2, acc, ρ2, e, h5 _ _ q⟩
theorem wr_lcA (h : WI (mi ρ) fun ds ρ1 => vs.all (plain ρ1) = true /\ ds.length < 1000000 /\ ∃ ff : D -> D,
    (∀ d ∈ ds, ∃ ρ2, tg d (wipeM ρ1 vs) = some ρ2 /\ WD (me ρ2) fun e ρ3 => e = ff d /\ wipeM ρ3 vs = wipeM ρ1 vs) /\ Q (.own (.lst (ds.map ff))) (putBack ρ1 (wipeM ρ1 vs) vs)) : WR (mLc mi tg mYes me vs ρ) Q := by
  refine wr_lc (h.mono fun ds ρ1 ⟨h1, h2, ff, h3, h4⟩ => ?_)
  exact ⟨h1, h2, _, _, lc_all h3, h4⟩
theorem wr_dcI {a0 : D} (h : WI (mi ρ) fun ds ρ1 => vs.all (plain ρ1) = true /\ ∃ I : Nat -> D -> ME -> Prop, I 0 a0 (wipeM ρ1 vs) /\
    (∀ i (h : i < ds.length) acc ρ, I i acc ρ -> ∃ ρ1, tg ds[i] ρ = some ρ1 /\ WB (tt ρ1) fun b ρ2 => (b = true -> WD (mk ρ2) fun k ρ3 => WD (mv ρ3) fun e ρ4 => ∃ a', putD acc k e = some a' /\ I (i + 1) a' (wipeM ρ4 vs)) /\ (b = false -> I (i + 1) acc (wipeM ρ2 vs))) /\
    ∀ acc ρ2, I ds.length acc ρ2 -> Q (.own acc) (putBack ρ1 ρ2 vs)) : WR (mDc a0 mi tg tt mk mv vs ρ) Q := by
  refine wr_dc (h.mono fun ds ρ1 ⟨h1, I, h3, h4, h5⟩ => ?_)
  obtain ⟨acc, ρ2, e, q⟩ := cp_loop I h3 fun i hi acc ρ hI => by
    obtain ⟨ρ1, e1, hb⟩ := h4 i hi acc ρ hI
    exact ⟨ρ1, e1, hb.mono fun b ρ2 ⟨q1, q2⟩ => ⟨fun e => wp_dc (P := fun a ρ => I (i + 1) a (wipeM ρ vs)) (q1 e), q2⟩⟩
  exact ⟨h1, acc, ρ2, e, h5 _ _ q⟩
theorem wr_dcKI {a0 : D} {mm : ME -> Option D} {dd : D} {ds : List D} (hm : mm ρ = some dd) (hk : keysD dd = some ds) (hp : vs.all (plain ρ) = true) (I : Nat -> D -> ME -> Prop) (h0 : I 0 a0 (wipeM ρ vs))
    (step : ∀ i (h : i < ds.length) acc ρ, I i acc ρ -> ∃ ρ1, tg ds[i] ρ = some ρ1 /\ WB (tt ρ1) fun b ρ2 => (b = true -> WD (mk ρ2) fun k ρ3 => WD (mv ρ3) fun e ρ4 => ∃ a', putD acc k e = some a' /\ I (i + 1) a' (wipeM ρ4 vs)) /\ (b = false -> I (i + 1) acc (wipeM ρ2 vs)))
    (fin : ∀ acc ρ2, I ds.length acc ρ2 -> Q (.own acc) (putBack ρ ρ2 vs)) : WR (mDcK a0 mm tg tt mk mv vs ρ) Q := by
  obtain ⟨acc, ρ2, e, q⟩ := cp_loop I h0 fun i hi acc ρ hI => by
    obtain ⟨ρ1, e1, hb⟩ := step i hi acc ρ hI
    exact ⟨ρ1, e1, hb.mono fun b ρ2 ⟨q1, q2⟩ => ⟨fun e => wp_dc (P := fun a ρ => I (i + 1) a (wipeM ρ vs)) (q1 e), q2⟩⟩
  exact wr_dcK hm hk hp ⟨acc, ρ2, e, fin _ _ q⟩
theorem wr_lcKI {mm : ME -> Option D} {dd : D} {ds : List D} (hm : mm ρ = some dd) (hk : keysD dd = some ds) (hp : vs.all (plain ρ) = true) (hl : ds.length < 1000000) (I : Nat -> List D -> ME -> Prop) (h0 : I 0 [] (wipeM ρ vs))
    (step : ∀ i (h : i < ds.length) acc ρ, I i acc ρ -> ∃ ρ1, tg ds[i] ρ = some ρ1 /\ WB (tt ρ1) fun b ρ2 => (b = true -> WD (me ρ2) fun d ρ3 => I (i + 1) (acc ++ [d]) (wipeM ρ3 vs)) /\ (b = false -> I (i + 1) acc (wipeM ρ2 vs)))
    (fin : ∀ acc ρ2, I ds.length acc ρ2 -> Q (.own (.lst acc)) (putBack ρ ρ2 vs)) : WR (mLcK mm tg tt me vs ρ) Q := by
  obtain ⟨acc, ρ2, e, q⟩ := lc_loop I h0 step
  exact wr_lcK hm hk hp hl ⟨acc, ρ2, e, fin _ _ q⟩
theorem wr_sortScKI {mm : ME -> Option D} {dd : D} {ds : List D} (hm : mm ρ = some dd) (hk : keysD dd = some ds) (hp : vs.all (plain ρ) = true) (I : Nat -> List IP -> ME -> Prop) (h0 : I 0 [] (wipeM ρ vs))
    (step : ∀ i (h : i < ds.length) acc ρ, I i acc ρ -> ∃ ρ1, tg ds[i] ρ = some ρ1 /\ WB (tt ρ1) fun b ρ2 => (b = true -> WD (me ρ2) fun e ρ3 => ∃ pp, e = pD pp /\ acc.length < 1000 /\ I (i + 1) (if pp ∈ acc then acc else acc ++ [pp]) (wipeM ρ3 vs)) /\ (b = false -> I (i + 1) acc (wipeM ρ2 vs)))
    (fin : ∀ acc ρ2, I ds.length acc ρ2 -> acc.all in64 = true /\ Q (.own (.lst ((sortP acc).map pD))) (putBack ρ ρ2 vs)) : WR (mSortScK mm tg tt me vs ρ) Q := by
  obtain ⟨acc, ρ2, e, q⟩ := cp_loop I h0 fun i hi acc ρ hI => by
    obtain ⟨ρ1, e1, hb⟩ := step i hi acc ρ hI
    exact ⟨ρ1, e1, hb.mono fun b ρ2 ⟨q1, q2⟩ => ⟨fun e => wp_sc (P := fun a ρ => I (i + 1) a (wipeM ρ vs)) (q1 e), q2⟩⟩
  obtain ⟨h1, h2⟩ := fin _ _ q
  exact wr_sortScK hm hk hp ⟨acc, ρ2, e, h1, h2⟩
end
theorem wr_methV' {ml : List (Str × MF)} {x : Str} {k : Nat} {ρ : ME} {d : D} {f : MF} {ms : ME -> ML} {Q : Slot -> ME -> Prop} (hd : ρ[k]? = some (.v d)) (hp : pickM ml x d = some f) (h : WL (ms ρ) fun ds ρ1 => WR (f (.v d :: ds.map .v)) fun s _ => (∃ e, dat s = some e) /\ Q s ρ1) : WR (mMethV ml x k ms ρ) Q := by
 obtain ⟨ds, ρ1, e, s, x', e2, ⟨e', e3⟩, q⟩ := h
 refine ⟨s, ρ1, ?_, q⟩
 unfold mMethV
 rw [hd]
 dsimp only
 rw [hp]
 dsimp only
 rw [e]
 show resF (f (.v d :: ds.map .v)) ρ1 = _
 rw [e2]
 cases s <;> first | rfl | cases e3
def Lay (k : Nat) (d : D) : Prop := d.py.canLay0 = true /\ d.py.depth ≤ k
def Lays (k : Nat) (ds : List D) : Prop := PyData.canLayAll0 (D.pys ds) = true /\ PyData.depthAll (D.pys ds) ≤ k
theorem Lay.int {k : Nat} (i : Int) : Lay k (.int i) := ⟨by simp [D.py, PyData.canLay0], by simp [D.py, PyData.depth]⟩
theorem Lays.nil {k : Nat} : Lays k [] := ⟨by simp [D.pys, PyData.canLayAll0], by simp [D.pys, PyData.depthAll]⟩
theorem Lays.cons {k : Nat} {d : D} {ds : List D} (h : Lay k d) (hs : Lays k ds) : Lays k (d :: ds) := by
 refine ⟨?_, ?_⟩
 ·simp only [D.pys, PyData.canLayAll0, h.1, hs.1, Bool.and_self]
 ·have h1 := h.2
  have h2 := hs.2
  simp only [D.pys, PyData.depthAll]
  omega
theorem Lays.all {k : Nat} : ∀ {ds : List D}, (∀ d ∈ ds, Lay k d) -> Lays k ds
 | [], _ => Lays.nil
 | d :: ds, h => Lays.cons (h d (by simp)) (Lays.all fun e he => h e (List.mem_cons_of_mem _ he))
theorem Lay.tup {k : Nat} {ds : List D} (h : Lays k ds) : Lay (k + 1) (.tup ds) := by
 refine ⟨by simp only [D.py, PyData.canLay0]; exact h.1, ?_⟩
 have := h.2
 simp only [D.py, PyData.depth]
 omega
theorem Lay.lst {k : Nat} {ds : List D} (h : Lays k ds) : Lay (k + 1) (.lst ds) := by
 refine ⟨by simp only [D.py, PyData.canLay0]; exact h.1, ?_⟩
 have := h.2
 simp only [D.py, PyData.depth]
 omega
theorem Lay.shp {k : Nat} {d : D} (h : Lay k d) (hk : k ≤ 64) : shp d = true := by
 unfold Mp.shp SeqAt.shaped
 rw [h.1, Bool.true_and]
 exact decide_eq_true (Nat.le_trans h.2 hk)
theorem eqv_int (i j : Int) : PyData.eqv (D.int i).py (D.int j).py = decide (i = j) := by
 simp only [D.py, PyData.eqv]
 by_cases h : i = j <;> simp [h]
theorem eqv_tup (ds es : List D) : PyData.eqv (D.tup ds).py (D.tup es).py = PyData.eqvAll (D.pys ds) (D.pys es) := by simp only [D.py, PyData.eqv]
theorem eqv_lst (ds es : List D) : PyData.eqv (D.lst ds).py (D.lst es).py = PyData.eqvAll (D.pys ds) (D.pys es) := by simp only [D.py, PyData.eqv]
def scal : D -> Bool
 | .non => true
 | .bl _ => true
 | .int _ => true
 | .str _ => true
 | _ => false
end Mp
namespace Mp
open PySem PySem.Spec
open PyProof.Rows hiding cutD
open L2 hiding way
theorem ws_par {is : List Nat} {ms : ME -> ML} {ρ : ME} {QS : Fl -> Prop} (h : WL (ms ρ) fun ds ρ1 => ds.length = is.length /\ QS (.nx ((is.zip ds).foldl (fun ρ q => ρ.set q.1 (.v q.2)) ρ1))) : WS (mPar is ms ρ) QS := by
 obtain ⟨ds, ρ1, e, hl, q⟩ := h
 refine ⟨_, ?_, q⟩
 unfold mPar
 rw [e]
 show (if ds.length = is.length then _ else _) = _
 rw [if_pos hl]
theorem Reps.snocs {G : Gd} {S : Hp} : ∀ {xs : List V} {ds : List D} {ys : List V} {es : List D}, Reps G S xs ds -> Reps G S ys es -> Reps G S (xs ++ ys) (ds ++ es)
 | xs, [], ys, es, r, r2 => by simp only [Reps] at r; subst r; exact r2
 | xs, d :: ds, ys, es, r, r2 => by
  simp only [Reps] at r
  obtain ⟨x, vr, rfl, h, r⟩ := r
  exact Reps.cons h (Reps.snocs r r2)
theorem Reps.rev {G : Gd} {S : Hp} : ∀ {xs : List V} {ds : List D}, Reps G S xs ds -> Reps G S xs.reverse ds.reverse
 | xs, [], r => by simp only [Reps] at r; subst r; exact Reps.nil
 | xs, d :: ds, r => by
  simp only [Reps] at r
  obtain ⟨x, vr, rfl, h, r⟩ := r
  rw [List.reverse_cons, List.reverse_cons]
  exact Reps.snocs (Reps.rev r) (Reps.cons h Reps.nil)
def gAbs : D -> Option Slot
 | .int i => some (.v (.int (if i < 0 then -i else i)))
 | _ => none
section
variable (G : Gd) (W : WX)
def ContIF (B : BxA) (Fr S : Hp) (σ : SV) (R : It -> Hp -> Prop) : MI -> Prop
 | .ok (ds, ρ) => ∀ J S' H', Ext Fr S S' -> Ok G B Fr S' ρ σ H' -> WalkD G (fun _ => none) S' J ds -> R J H'
 | .err c ρ => ∀ S' H', Ext Fr S S' -> Ok G B Fr S' ρ σ H' -> ∀ C, G.mg c.nm = some (.ref C) -> ∀ dd, ErrD G S' H' c dd -> W (.ref C) dd σ H'
 | .stuck => False
end
section
variable {G : Gd} {W : WX} {B : BxA} {Fr S S' : Hp} {ρ : ME} {σ : SV} {H : Hp} {R : It -> Hp -> Prop}
theorem ContIF.mono {r : MI} (h : ContIF G W B Fr S σ R r) (e : Ext Fr S S') : ContIF G W B Fr S' σ R r := by
 cases r with
 | ok p => exact fun J S2 H2 e2 o w => h J S2 H2 (e.trans e2) o w
 | err c ρ => exact fun S2 H2 e2 o C hC => h S2 H2 (e.trans e2) o C hC
 | stuck => exact h
end
def mExt (k : Nat) (me : ME -> MR) : ME -> MR := fun ρ => match heldAt ρ k with
 | some (.lst _) => frz (me ρ) fun e ρ1 => match e, heldAt ρ1 k with
  | .lst es, some (.lst ds) => if ds.length + es.length < 1000000 then .ok (.v .non, putAt ρ1 k (.lst (ds ++ es))) else .stuck
  | _, _ => .stuck
 | _ => .stuck
theorem wr_ext {k : Nat} {me : ME -> MR} {ρ : ME} {Q : Slot -> ME -> Prop} {ds : List D} (hk : heldAt ρ k = some (.lst ds)) (h : WD (me ρ) fun e ρ1 => ∃ es ds1, e = .lst es /\ heldAt ρ1 k = some (.lst ds1) /\ ds1.length + es.length < 1000000 /\ Q (.v .non) (putAt ρ1 k (.lst (ds1 ++ es)))) : WR (mExt k me ρ) Q := by
 unfold mExt
 rw [hk]
 refine frz_ok ?_
 obtain ⟨s, ρ1, e, d, e2, es, ds1, rfl, e3, hl, q⟩ := h
 exact ⟨s, ρ1, e, _, e2, _, _, by rw [e3]; dsimp only; rw [if_pos hl], q⟩
end Mp
namespace Mp
open PySem PySem.Spec PyProof.Rows L2
def cellsAt (ρ : ME) (h : Nat) : Option (List Cell) := match ρ[h]? with
 | some (.hp cs) => some cs
 | _ => none
theorem cellsAt_eq {ρ : ME} {h : Nat} {cs : List Cell} (e : cellsAt ρ h = some cs) : ρ[h]? = some (.hp cs) := by
 unfold cellsAt at e
 split at e
 ·cases e; assumption
 ·cases e
def Pc.slot : Pc -> Slot
 | .d x => .v x
 | .p k => .pt k
section
variable {G : Gd} {B : BxA} {Fr S : Hp} {ρ : ME} {σ : SV} {H : Hp}
theorem CelX.hold {cs : List Cell} {α : List Addr} (c : CelX G B Fr S ρ σ H cs α) : CelX G ⟨B.ad, α⟩ Fr S ρ σ H cs α := ⟨fun _ _ z => z, c.len, c.at_, c.tu, c.one, c.off, c.pt, c.bo⟩
theorem Ok.hold {h : Nat} {cs : List Cell} (o : Ok G B Fr S ρ σ H) (e : ρ[h]? = some (.hp cs)) : ∃ α, CelX G B Fr S ρ σ H cs α /\ Ok G ⟨B.ad, α⟩ Fr S ρ σ H := by
 obtain ⟨α, c⟩ := o.ce.ex h cs e
 refine ⟨α, c, { o with ce := ⟨fun i es ei => ?_, o.ce.un⟩ }⟩
 have hi := o.ce.un i h es cs ei e
 subst hi
 rw [e] at ei; cases ei
 exact ⟨α, c.hold⟩
theorem Ok.unhold {α : List Addr} (pre : ∀ (k : Nat) (a : Addr), B.al[k]? = some a -> α[k]? = some a) (o : Ok G ⟨B.ad, α⟩ Fr S ρ σ H) : Ok G B Fr S ρ σ H :=
 { o with ce := o.ce.heap Same.refl pre fun a u e1 e2 e3 _ _ => ⟨e1, e2, e3⟩ }
theorem Cont.hold {W : WX} {Q : VK} {r : MR} {α : List Addr} (pre : ∀ (k : Nat) (a : Addr), B.al[k]? = some a -> α[k]? = some a) (c : Cont G W B Fr S σ Q r) : Cont G W ⟨B.ad, α⟩ Fr S σ Q r := by
 cases r with
 | ok p => obtain ⟨s, ρ⟩ := p; exact fun x S' H' e o => c x S' H' e (o.unhold pre)
 | err cc ρ => exact fun S' H' e o => c S' H' e (o.unhold pre)
 | stuck => exact c
theorem CelX.tail {s : Slot} {x : Option V} {cs : List Cell} {α : List Addr} (c : CelX G B Fr S (s :: ρ) (x :: σ) H cs α) : CelX G B Fr S ρ σ H cs α :=
 c.slots fun j s e _ => .inl ⟨j + 1, s, by simpa using e, by simp, Kin.refl⟩
theorem Ok.ptTop {h k : Nat} {cs : List Cell} {x : Option V} (o : Ok G B Fr S (.pt k :: ρ) (x :: σ) H) (e : ρ[h]? = some (.hp cs)) : ∃ α a, CelX G B Fr S ρ σ H cs α /\ α[k]? = some a /\ x = some (.ref a) := by
 obtain ⟨α, c⟩ := o.ce.ex (h + 1) cs (by simpa using e)
 obtain ⟨a, e1, e2⟩ := c.pt 0 k rfl
 exact ⟨α, a, c.tail, e1, by simpa using e2⟩
end
section
variable {G : Gd} {S : Hp} {α : List Addr}
theorem RepPs.length : ∀ {vs : List V} {ps : List Pc}, RepPs G S α vs ps -> vs.length = ps.length
 | vs, [], r => by cases r; rfl
 | vs, p :: ps, r => by
  obtain ⟨v, vr, rfl, _, q⟩ := r
  rw [List.length_cons, List.length_cons, q.length]
theorem RepPs.get : ∀ {vs : List V} {ps : List Pc} {i : Nat} {p : Pc}, RepPs G S α vs ps -> ps[i]? = some p -> ∃ v, vs[i]? = some v /\ RepP G S α v p
 | vs, [], i, p, r, e => by simp at e
 | vs, q :: ps, 0, p, r, e => by
  obtain ⟨v, vr, rfl, h, _⟩ := r
  simp at e; subst e
  exact ⟨v, rfl, h⟩
 | vs, q :: ps, i + 1, p, r, e => by
  obtain ⟨v, vr, rfl, _, r⟩ := r
  obtain ⟨u, e1, e2⟩ := r.get (i := i) (by simpa using e)
  exact ⟨u, by simpa using e1, e2⟩
theorem RepPs.nil : RepPs G S α [] [] := rfl
theorem RepPs.cons {v : V} {p : Pc} {vs : List V} {ps : List Pc} (h : RepP G S α v p) (r : RepPs G S α vs ps) : RepPs G S α (v :: vs) (p :: ps) := ⟨v, vs, rfl, h, r⟩
theorem RepPs.app : ∀ {vs : List V} {ps : List Pc} {ws : List V} {qs : List Pc}, RepPs G S α vs ps -> RepPs G S α ws qs -> RepPs G S α (vs ++ ws) (ps ++ qs)
 | vs, [], ws, qs, r, q => by cases r; exact q
 | vs, p :: ps, ws, qs, r, q => by
  obtain ⟨v, vr, rfl, h, r⟩ := r
  exact RepPs.cons h (r.app q)
theorem RepPs.snoc {vs : List V} {ps : List Pc} {v : V} {p : Pc} (r : RepPs G S α vs ps) (h : RepP G S α v p) : RepPs G S α (vs ++ [v]) (ps ++ [p]) := r.app (.cons h .nil)
theorem RepPs.take : ∀ (n : Nat) {vs : List V} {ps : List Pc}, RepPs G S α vs ps -> RepPs G S α (vs.take n) (ps.take n)
 | 0, vs, ps, _ => by simp only [List.take_zero]; exact rfl
 | n + 1, vs, [], r => by cases r; exact rfl
 | n + 1, vs, p :: ps, r => by
  obtain ⟨v, vr, rfl, h, r⟩ := r
  exact RepPs.cons h (RepPs.take n r)
theorem RepPs.dropLast {vs : List V} {ps : List Pc} (r : RepPs G S α vs ps) : RepPs G S α vs.dropLast ps.dropLast := by
 have h := r.take (ps.length - 1)
 rw [List.dropLast_eq_take, List.dropLast_eq_take, r.length]
 exact h
theorem RepPs.rev : ∀ {vs : List V} {ps : List Pc}, RepPs G S α vs ps -> RepPs G S α vs.reverse ps.reverse
 | vs, [], r => by cases r; exact rfl
 | vs, p :: ps, r => by
  obtain ⟨v, vr, rfl, h, r⟩ := r
  rw [List.reverse_cons, List.reverse_cons]
  exact r.rev.snoc h
theorem RepPs.of : ∀ {vs : List V} {ds : List D}, Reps G S vs ds -> RepPs G S α vs (ds.map .d)
 | vs, [], r => by simp only [Reps] at r; exact r
 | vs, d :: ds, r => by
  simp only [Reps] at r
  obtain ⟨v, vr, rfl, h, r⟩ := r
  exact RepPs.cons h (RepPs.of r)
end
def pcsOf : Cell -> Option (List Pc)
 | .d (.lst ds) => some (ds.map .d)
 | .lst ps => some ps
 | _ => none
section
variable {G : Gd} {S : Hp} {α : List Addr} {o : HO} {c c' : Cell} {p : Pc} {v : V} {ps : List Pc} {vs : List V}
theorem RepC.lst (r : RepC G S α o c) (e : pcsOf c = some ps) : ∃ vs, o = .lst vs /\ RepPs G S α vs ps := by
 cases c with
 | d x =>
  cases x with
  | lst ds =>
   cases e
   obtain ⟨vs, rfl, q⟩ := r
   exact ⟨vs, rfl, .of q⟩
  | _ => cases e
 | lst qs => cases e; exact r
 | _ => cases e
end
section
variable {G : Gd} {W : WX} {B : BxA} {Fr S : Hp} {ρ : ME} {σ : SV} {H : Hp} {Q : VK}
def PcAt (G : Gd) (B : BxA) (Fr S : Hp) (ρ : ME) (σ : SV) (H : Hp) (x : V) (p : Pc) : Prop := ∀ (h : Nat) (cs : List Cell), ρ[h]? = some (.hp cs) -> ∃ α, CelX G B Fr S ρ σ H cs α /\ RepP G S α x p
end
abbrev MLP := Res (List Pc × ME)
def pcsL (r : MR) (f : Pc -> ME -> MLP) : MLP := match r with
 | .ok (.v d, ρ) => f (.d d) ρ
 | .ok (.own d, ρ) => f (.d d) ρ
 | .ok (.pt k, ρ) => f (.p k) ρ
 | .ok _ => .stuck
 | .err c ρ => .err c ρ
 | .stuck => .stuck
def mNilP (h : Nat) : ME -> MLP := fun ρ => match cellsAt ρ h with
 | some _ => .ok ([], ρ)
 | none => .stuck
def mConsP (h : Nat) (m : ME -> MR) (ms : ME -> MLP) : ME -> MLP := fun ρ => pcsL (m ρ) fun p ρ1 => match cellsAt ρ1 h with
 | some _ => bnd (ms ρ1) fun q => .ok (p :: q.1, q.2)
 | none => .stuck
section
variable (G : Gd) (W : WX)
def ContP (h : Nat) (B : BxA) (Fr S : Hp) (σ : SV) (Q : List V -> Hp -> Prop) : MLP -> Prop
 | .ok (ps, ρ) => ∀ (cs : List Cell) (α : List Addr) xs S' H', Ext Fr S S' -> Ok G B Fr S' ρ σ H' -> cellsAt ρ h = some cs -> CelX G B Fr S' ρ σ H' cs α -> RepPs G S' α xs ps -> Q xs H'
 | .err c ρ => ∀ S' H', Ext Fr S S' -> Ok G B Fr S' ρ σ H' -> ∀ C, G.mg c.nm = some (.ref C) -> ∀ dd, ErrD G S' H' c dd -> W (.ref C) dd σ H'
 | .stuck => False
def tMsP (h : Nat) (m : ME -> MLP) : TA := fun σ H Q => ∃ B Fr S ρ, Ok G B Fr S ρ σ H /\ ContP G W h B Fr S σ Q (m ρ)
end
section
variable {G : Gd} {W : WX} {h : Nat} {B : BxA} {Fr S S' : Hp} {ρ : ME} {σ : SV} {H : Hp} {Q : List V -> Hp -> Prop} {P : V -> Hp -> Prop}
theorem ContP.mono {r : MLP} (c : ContP G W h B Fr S σ Q r) (e : Ext Fr S S') : ContP G W h B Fr S' σ Q r := by
 cases r with
 | ok p => exact fun cs α x S2 H2 e2 o => c cs α x S2 H2 (e.trans e2) o
 | err cc ρ => exact fun S2 H2 e2 o => c S2 H2 (e.trans e2) o
 | stuck => exact c
theorem opndLP {m : ME -> MR} {f : Pc -> ME -> MLP} (o0 : Ok G B Fr S ρ σ H) (hc : ContP G W h B Fr S σ Q (pcsL (m ρ) f))
    (k : ∀ p ρ1 x S1 H1, Ext Fr S S1 -> Ok G B Fr S1 ρ1 σ H1 -> PcAt G B Fr S1 ρ1 σ H1 x p -> ContP G W h B Fr S1 σ Q (f p ρ1) -> P x H1) : tM G W m σ H P := by
  refine ⟨B, Fr, S, ρ, o0, ?_⟩
  cases e : m ρ with
  | ok p =>
    obtain ⟨s, ρ1⟩ := p
    intro x S1 H1 e1 o
    rw [e] at hc
    cases s with
    | v d =>
      obtain ⟨x', q1, q2⟩ := o.vs 0 d rfl
      have q3 : x = x' := by simpa using q1
      subst q3
      exact k (.d d) ρ1 x S1 H1 e1 o.tail (fun h cs e => by
        obtain ⟨α, c⟩ := o.tail.ce.ex h cs e
        exact ⟨α, c, q2⟩) (ContP.mono (show ContP G W h B Fr S σ Q (f (.d d) ρ1) from hc) e1)
    | own d =>
      obtain ⟨y, S2, q1, e2, o2, r⟩ := o.freezeTop
      cases q1
      exact k (.d d) ρ1 x S2 H1 (e1.trans e2) o2 (fun h cs e => by
        obtain ⟨α, c⟩ := o2.ce.ex h cs e
        exact ⟨α, c, r⟩) (ContP.mono (show ContP G W h B Fr S σ Q (f (.d d) ρ1) from hc) (e1.trans e2))
    | pt j =>
      exact k (.p j) ρ1 x S1 H1 e1 o.tail (fun h cs e => by
        obtain ⟨α, a, c, ea, ex⟩ := o.ptTop e
        exact ⟨α, c, a, ea, by simpa using ex⟩) (ContP.mono (show ContP G W h B Fr S σ Q (f (.p j) ρ1) from hc) e1)
    | no => exact hc.elim
    | bor _ _ => exact hc.elim
    | hp _ => exact hc.elim
    | box d => exact hc.elim
  | err c ρ1 =>
    rw [e] at hc
    exact hc
  | stuck =>
    rw [e] at hc
    exact hc
theorem CelX.uniq {cs cs' : List Cell} (o : Ok G B Fr S ρ σ H) {i : Nat} (e : ρ[h]? = some (.hp cs)) (ei : ρ[i]? = some (.hp cs')) : cs' = cs := by
 have hi := o.ce.un i h cs' cs ei e
 subst hi
 rw [e] at ei; cases ei; rfl
theorem Ok.holdAt {cs : List Cell} {α : List Addr} (o : Ok G B Fr S ρ σ H) (e : ρ[h]? = some (.hp cs)) (c : CelX G B Fr S ρ σ H cs α) : Ok G ⟨B.ad, α⟩ Fr S ρ σ H :=
  { o with ce := ⟨fun i es ei => by
      have := CelX.uniq o e ei
      subst this
      exact ⟨α, c.hold⟩, o.ce.un⟩ }
theorem CelX.unhold {cs : List Cell} {α β : List Addr} (pre : ∀ (k : Nat) (a : Addr), B.al[k]? = some a -> α[k]? = some a) (c : CelX G ⟨B.ad, α⟩ Fr S ρ σ H cs β) : CelX G B Fr S ρ σ H cs β :=
 ⟨fun k a z => c.pre k a (pre k a z), c.len, c.at_, c.tu, c.one, c.off, c.pt, c.bo⟩
end
section
variable {X : Cx} {W : WX} {pos : Pos}
theorem map_nil (h : Nat) : PA X [] (tMsP (gOf X) W h (mNilP h)) := ⟨fun pos pins s σ H Q I q => pa_nil.run pos pins s σ H Q I (by
 obtain ⟨B, Fr, S, ρ, o, c⟩ := q
 unfold mNilP at c
 split at c
 ·rename_i cs e
  obtain ⟨α, cx⟩ := o.ce.ex h cs (cellsAt_eq e)
  exact c cs α [] S H Ext.refl o e cx .nil
 ·exact c.elim)⟩
theorem map_cons (h : Nat) {e : Expr} {es : List Expr} {m : ME -> MR} {ms : ME -> MLP} (he : PE X e (tM (gOf X) W m)) (hs : PA X es (tMsP (gOf X) W h ms)) (hst : starEach (e :: es) X.env = (false, eval e X.env) :: starEach es X.env := by rfl) :
    PA X (e :: es) (tMsP (gOf X) W h (mConsP h m ms)) := ⟨fun pos pins s σ H Q I q => (pa_cons he hs hst).run pos pins s σ H Q I (by
  obtain ⟨B, Fr, S, ρ, o, c⟩ := q
  refine opndLP o c fun p ρ1 x S1 H1 e1 o1 r1 c1 => ?_
  split at c1
  · rename_i cs q1
    obtain ⟨α, cx, rp⟩ := r1 h cs (cellsAt_eq q1)
    refine ⟨⟨B.ad, α⟩, Fr, S1, ρ1, o1.holdAt (cellsAt_eq q1) cx, ?_⟩
    cases q : ms ρ1 with
    | ok p =>
      obtain ⟨ps, ρ2⟩ := p
      intro cs2 β xs S2 H2 e2 o2 q2 cx2 r2
      rw [q] at c1
      exact c1 cs2 β (x :: xs) S2 H2 e2 (o2.unhold cx.pre) q2 (cx2.unhold cx.pre) (.cons (rp.mono e2.same fun k a z => cx2.pre k a z) r2)
    | err c ρ2 =>
      rw [q] at c1
      exact fun S2 H2 e2 o2 => c1 S2 H2 e2 (o2.unhold cx.pre)
    | stuck =>
      rw [q] at c1
      exact c1
  · exact c1.elim)⟩
end
abbrev MFH := List Slot -> List Cell -> MR
def spH (G : Gd) (k : Nat) (f : MFH) : Sp := fun vs H Q E => ∃ B Fr S args cs, args.length = k /\ Ok G B Fr S (args ++ [.hp cs]) (vs.map some ++ [none]) H /\ ContF G B Fr S Q E (f args cs)
def DefOkH (P : Program) (w : World) (K : PySem.W.Frag) (mg : Str -> Option Value) (base : Heap) (x : Str) (n k : Nat) (f : MFH) : Prop :=
 ∃ (a : Addr) (fd : FuncData) (ps : List Str), mg x = some (.ref a) /\ PySem.W.keepIn K (.ref a) = true /\ Binds K fd ps [] /\ ps.length = k /\ FnOk P w K mg base (L2.CX P w) n a fd ps (spH ⟨P, w, K, mg, none⟩ k f)
theorem DefOkH.mono {P : Program} {w : World} {K : PySem.W.Frag} {mg : Str -> Option Value} {base : Heap} {x : Str} {n m k : Nat} {f : MFH} (h : DefOkH P w K mg base x n k f) (l : n ≤ m) : DefOkH P w K mg base x m k f := by
 obtain ⟨a, fd, ps, h1, h2, h3, h4, h5⟩ := h
 exact ⟨a, fd, ps, h1, h2, h3, h4, h5.mono l⟩
def MethOkH (P : Program) (w : World) (K : PySem.W.Frag) (mg : Str -> Option Value) (base : Heap) (c m : Str) (n k : Nat) (f : MFH) : Prop :=
 ∃ (C g : Addr) (fd : FuncData) (ps : List Str), mg c = some (.ref C) /\ Cls K C /\ Meth K C m g /\ Binds K fd ps [] /\ ps.length = k /\ FnOk P w K mg base (L2.CX P w) n g fd ps (spH ⟨P, w, K, mg, none⟩ k f)
theorem MethOkH.mono {P : Program} {w : World} {K : PySem.W.Frag} {mg : Str -> Option Value} {base : Heap} {c m : Str} {n n' k : Nat} {f : MFH} (h : MethOkH P w K mg base c m n k f) (l : n ≤ n') : MethOkH P w K mg base c m n' k f := by
 obtain ⟨C, g, fd, ps, h1, h2, h3, h4, h5, h6⟩ := h
 exact ⟨C, g, fd, ps, h1, h2, h3, h4, h5, h6.mono l⟩
def MlOkH (X : Cx) (m : Str) (n k : Nat) (ml : List (Str × MFH)) : Prop := ∀ c f, ml.lookup c = some f -> MethOkH X.prog X.w X.K X.mg X.base c m n k f
theorem MlOkH.nil {X : Cx} {m : Str} {n k : Nat} : MlOkH X m n k [] := fun _ _ h => by cases h
theorem MlOkH.cons {X : Cx} {m c : Str} {n k : Nat} {f : MFH} {ml : List (Str × MFH)} (h : MethOkH X.prog X.w X.K X.mg X.base c m n k f) (hs : MlOkH X m n k ml) : MlOkH X m n k ((c, f) :: ml) := fun c' f' e => by
 rw [List.lookup_cons] at e
 cases q : c' == c with
 | true =>
  rw [q] at e
  cases e
  have := of_decide_eq_true (by simpa [BEq.beq] using q : decide (c' = c) = true)
  subst this
  exact h
 | false => rw [q] at e; exact hs c' f' e
end Mp
namespace PySem.W
open PySem PySem.Spec PySem.Calls PyProof.Rows
section
variable {prog : Program} {w : World} {A : Around} {E : Value -> Shared -> Prop} {s : Shared} {K : Frag} {C L : Addr} {h₀ : Heap} {m : Str -> Option Value} {name : Str} {v : Value}
theorem method_ownCls {pl : Sem Bool} {Q : Value × List Value -> Shared -> Prop} (F : Fr h₀ L s.heap m) (X₀ : K.In h₀) (hr : readsIn K C (.type "type") = true)
    (e : findCls K (.ref C) (.type "type") name = some (.val v)) (hh : handedIn v = true) (h : Q (v, []) { s with toks := s.toks + 1 }) : wpAny (model prog w) A (getMethod (.ref C) name pl) Q E s := by
  have X := X₀.keeps F.keep
  simp only [readsIn, Bool.and_eq_true, beq_iff_eq] at hr
  obtain ⟨⟨⟨⟨a, b⟩, c'⟩, d⟩, f⟩ := hr
  obtain ⟨hk, d⟩ := Option.isSome_iff_exists.mp d
  have L0 : Looks (model prog w) s.heap (typeOf (.ref C)) (.type "type") := looks_typeIn X b
  unfold getMethod specialOf
  refine wpAny_bind (wpAny_bind (L0.here ((looks_findIn X c').here ?_)))
  dsimp only
  rw [if_pos canon_tga]
  refine wpAny_bind (wpAny_mono (Q := fun v => Q (v, [])) (E := E) ?_ (fun _ _ z => wpAny_pure z) fun _ _ z => z)
  refine cls_open X (looks_opaque X a) L0 c' (looks_hook X d) f e
    (wpAny_pure (by show wpAny _ _ (handedOut v) _ _ _; rw [handedOut_of hh]; exact wpAny_pure h))
end
end PySem.W
namespace Mp
open PySem PySem.Spec PyProof.Rows L2
theorem pe_ownInit {X : Cx} {x : Str} {e : Expr} {es : List Expr} {ta : TA} {p1 p2 pos : Pos} {C0 : Addr} {pl : Sem Bool} (hg : Gl X x) (hm : X.mg x = some (.ref C0)) (hr : PySem.W.readsIn X.K C0 (.type "type") = true)
    (vV : PySem.W.findCls X.K (.ref C0) (.type "type") "__init__" = some (.val (.builtin "ValueError.__init__"))) (ha : PA X (e :: es) ta)
    (hc : eval (.Call (.Attribute (.Name x p1) "__init__" p2) (e :: es) [] pos) X.env = (do
      let ov <- eval (.Name x p1) X.env
      standAt p2.atName
      let (f, first) <- holding [ov] (getMethod ov "__init__" pl)
      callWith pos f first (backTo pos (starEach (e :: es) X.env)) (backToKw pos (keywordEach [] X.env))) := by rfl)
    (hdb : (x == ("__debug__" : Str)) = false := by decide)
    (he : starEach (e :: es) X.env = (false, eval e X.env) :: starEach es X.env := by rfl) (hpl : (backTo pos (starEach es X.env)).any (·.1) = false := by rfl) :
    PE X (.Call (.Attribute (.Name x p1) "__init__" p2) (e :: es) [] pos) (tVeI X.K ta) := by
  refine ⟨fun pins s σ H Q I h => ?_⟩
  refine PySem.W.methodCall_KW (ld_glob I hg hm ?_ hdb) hc
  obtain ⟨m, fr⟩ := I.fr
  refine PySem.W.method_ownCls fr I.ok.mod.kin hr vV (by decide +kernel) ?_
  show wpAny _ _ (callWith pos (Value.builtin "ValueError.__init__") [] (backTo pos (starEach (e :: es) X.env)) []) _ _ _
  refine PyProof.Rows.callWith_method1 (thn (ha.run pos pins _ σ H _ (I.tok _) h) fun us s1 ⟨vs, H1, I1, r1, a, C, ws, ev, hl, T, ea, q⟩ => ?_) he hpl
  subst ev
  cases r1 with
  | @cons _ u0 _ ur ra rw' =>
    obtain rfl : u0 = Value.ref a := ra
    have hlen : ur.length ≤ sizeLine := by
      rw [<- Paired.length rw', sizeLine_eq]
      omega
    exact oinit_ok T I1 ea hlen fun s' J => ⟨.non, H1, J, rfl, q⟩
def spI (K : PySem.W.Frag) (fs : List Str) : Sp := fun vs H Q E => ∃ (a C : Addr) (xs : List V), vs = .ref a :: xs /\ xs.length = fs.length /\ OexC K C /\ (∀ f ∈ fs, PySem.W.findIn K (.ref C) f = some none) /\ H a = some (exo a C none) /\
 ∀ dx, H dx = none -> dx ≠ a -> Q .non (upd (upd H dx (exd dx (fs.reverse.zip xs.reverse))) a (exo a C (some dx)))
def ExIOk (P : Program) (w : World) (K : PySem.W.Frag) (mg : Str -> Option Value) (base : Heap) (c : Str) (n : Nat) (fs : List Str) : Prop :=
 ∃ (C fI : Addr) (fd : FuncData) (ps : List Str), mg c = some (.ref C) /\ OexC K C /\ (∀ f ∈ fs, PySem.W.findIn K (.ref C) f = some none) /\ PySem.W.findIn K (.ref C) "__init__" = some (some (.ref fI)) /\ PySem.W.typeIn K (.ref fI) = some (.type "function") /\ Binds K fd ps [] /\ FnOk P w K mg base (L2.CX P w) n fI fd ps (spI K fs)
theorem ExIOk.mono {P : Program} {w : World} {K : PySem.W.Frag} {mg : Str -> Option Value} {base : Heap} {c : Str} {n m : Nat} {fs : List Str} (h : ExIOk P w K mg base c n fs) (l : n ≤ m) : ExIOk P w K mg base c m fs := by
 obtain ⟨C, fI, fd, ps, h1, h2, h3, h4, h5, h6, h7⟩ := h
 exact ⟨C, fI, fd, ps, h1, h2, h3, h4, h5, h6, h7.mono l⟩
def ExIIs (K : PySem.W.Frag) (mg : Str -> Option Value) (c b : Str) (fs : List Str) (qual : Str) (params : Arguments) (body : List Stmt) (scope : Scope) : Prop :=
 ∃ (C fI C0 : Addr) (fd : FuncData), mg c = some (.ref C) /\ OexC K C /\ (∀ f ∈ fs, PySem.W.findIn K (.ref C) f = some none) /\ PySem.W.findIn K (.ref C) "__init__" = some (some (.ref fI)) /\ PySem.W.typeIn K (.ref fI) = some (.type "function") /\ FunD K "__init__" qual params body scope [] [] fI fd /\
  mg b = some (.ref C0) /\ PySem.W.readsIn K C0 (.type "type") = true /\ PySem.W.findCls K (.ref C0) (.type "type") "__init__" = some (.val (.builtin "ValueError.__init__"))
section
variable {P : Program} {w : World} {K : PySem.W.Frag} {mg : Str -> Option Value} {base : Heap} {c b qual f g : Str} {params : Arguments} {scope : Scope} {n j : Nat} {msg : Str} {p0 p1 p2 p3 p4 p5 p6 p7 p8 p9 q1 q2 q3 q4 : Pos}
theorem exI_one (D : ExIIs K mg c b [f] qual params [.Expr (.Call (.Attribute (.Name b p1) "__init__" p2) [.Name "self" p3, .Constant (.str msg) j p4] [] p5) p6, .Assign [.Attribute (.Name "self" p7) f p8] (.Name f p9) p0] scope) (S : FnScope (["self", f] : List Str) (["self", f] : List Str) scope)
    (hb : ∀ (kV doc pm : Value) (an : Option Addr) (cdv ct : Value) (us : List Value), us.length = 2 -> bindArgs (PySem.W.fnOf "__init__" qual params [.Expr (.Call (.Attribute (.Name b p1) "__init__" p2) [.Name "self" p3, .Constant (.str msg) j p4] [] p5) p6, .Assign [.Attribute (.Name "self" p7) f p8] (.Name f p9) p0] scope .none kV doc pm an cdv ct) ⟨us, []⟩ = pure ((["self", f] : List Str).zip us))
    (hwalk : ∀ (fI C0 : Addr) (cdv : Value) (A : Around) (outer : List Env) (s : Shared) (H : Hp) (E : XK), mg b = some (.ref C0) -> PySem.W.readsIn K C0 (.type "type") = true -> PySem.W.findCls K (.ref C0) (.type "type") "__init__" = some (.val (.builtin "ValueError.__init__")) ->
      PSs (cxOf (L2.CX P w) P w K mg base (["self", f] : List Str) qual scope fI cdv A outer s H E) [.Expr (.Call (.Attribute (.Name b p1) "__init__" p2) [.Name "self" p3, .Constant (.str msg) j p4] [] p5) p6, .Assign [.Attribute (.Name "self" p7) f p8] (.Name f p9) p0]
        (tSeq (tDrop (tVeI K (tCons (tVar 0) (tCons (tC (.str msg)) tNil)))) (tOst K f (tVar 0) (tVar 1)))) : ExIOk P w K mg base c (n + 1) [f] := by
  obtain ⟨C, fI, C0, fd, h1, h2, h3, h4, h5, F, h7, h8, h9⟩ := D
  refine ⟨C, fI, fd, ["self", f], h1, h2, h3, h4, h5, F.bindsN hb, F.ok S (fun vs H Q E q => ?_) fun cdv A outer s H vs Q E hr q => ⟨_, hwalk fI C0 cdv A outer s H E h7 h8 h9, ?_⟩⟩
  · obtain ⟨a, C, xs, rfl, hl, _⟩ := q
    simp [hl]
  · obtain ⟨a, C', xs, rfl, hl, T, hf, ha, q⟩ := q
    obtain ⟨x, rfl⟩ : ∃ x, xs = [x] := by
      match xs, hl with
      | [x], _ => exact ⟨x, rfl⟩
    refine ⟨.ref a, rfl, a, C', [.str msg], rfl, by simp, T, ha, x, rfl, .ref a, rfl, a, C', rfl, T, hf f (by simp), .inl ⟨ha, fun dx n ne => q dx n ne⟩⟩
end
def mRaiseI (c : Str) (fs : List Str) (ms : ME -> ML) : ME -> MS := fun ρ => match ms ρ with
 | .ok p => .err ⟨c, fs.reverse, p.1.reverse⟩ p.2
 | .err c' ρ' => .err c' ρ'
 | .stuck => .stuck
section
variable {X : Cx} {W : WX} {c : Str} {n : Nat} {fs : List Str} {ms : ME -> ML} {e : Expr} {es : List Expr} {p p3 pos : Pos}
theorem st_raiseI (F : ExIOk X.prog X.w X.K X.mg X.base c n fs) (hr : Room (n + 1) X.A) (tk : Takes X W) (hg : Gl X c) (ha : PA X (e :: es) (tMs (gOf X) W ms)) (hl : LenIs ms fs.length) (hc : X.calm = true := by rfl) (hn : fs ≠ [] /\ fs.length ≤ 1000 := by decide)
    (hdb : (c == ("__debug__" : Str)) = false := by decide) (he : starEach (e :: es) X.env = (false, eval e X.env) :: starEach es X.env := by rfl) (hpl : (backTo p3 (starEach es X.env)).any (·.1) = false := by rfl) :
    PS X (.Raise (some (.Call (.Name c p) (e :: es) [] p3)) none pos) (sM (gOf X) W (mRaiseI c fs ms)) := by
  obtain ⟨C, fI, fd, ps, h1, h2, h3, h4, h5, hb, F1⟩ := F
  refine PS.imp (ps_raise hc tk (pmk_oex (dvs := []) (ds := []) h2 h4 h5 F1 hr hb .nil (passes_call tk fun _ _ _ _ z => z.elim) hg h1 ha hdb he hpl)) fun En σ H h => ?_
  obtain ⟨B, Fr, S, ρ, o, k⟩ := h
  refine ⟨B, Fr, S, ρ, o, ?_⟩
  unfold mRaiseI at k
  cases q : ms ρ with
  | ok r =>
    obtain ⟨ds, ρ1⟩ := r
    rw [q] at k
    intro xs S1 H1 e1 o1 r1
    have hl1 : ds.length = fs.length := hl _ _ _ q
    have hx : xs.length = fs.length := by rw [r1.length, hl1]
    refine ⟨by rw [hx]; exact hn.2, fun a na => ⟨a, C, xs, by rw [List.append_nil], hx, h2, h3, upd_same, fun dx nx ne => ⟨rfl, dx, fs.reverse.zip xs.reverse, upd_same, ?_, ?_, ?_⟩⟩⟩
    · rw [upd_ne ne, upd_same]
    · rw [upd_ne ne] at nx; exact nx
    · rw [upd_ne ne] at nx
      have eh : upd (del (upd (upd (upd H1 a (exo a C none)) dx (exd dx (fs.reverse.zip xs.reverse))) a (exo a C (some dx))) a) dx (.xd (fs.reverse.zip xs.reverse)) = upd H1 dx (.xd (fs.reverse.zip xs.reverse)) := by
        funext z
        unfold upd del
        by_cases z1 : z = dx
        · simp [z1]
        · by_cases z2 : z = a
          · subst z2
            simp [z1, na]
          · simp [z1, z2]
      rw [eh]
      obtain ⟨fz, sz⟩ := o1.free nx
      refine k σ _ _ (e1.trans ⟨Same.upd sz, fun b u e2 e3 _ => ?_⟩) (o1.new nx) C h1 (some dx) ?_
      · rw [upd_ne fun z => by rw [z, fz] at e3; cases e3]
        exact e2
      · unfold ErrD
        dsimp only
        cases ef : fs.reverse with
        | nil => exact absurd (List.reverse_eq_nil_iff.mp ef) hn.1
        | cons g gs =>
          refine ⟨dx, xs.reverse, rfl, upd_same, ?_, ?_⟩
          · rw [<- ef, List.length_reverse, List.length_reverse, hx]
          · exact (r1.mono (Same.upd sz)).rev
  | err c' ρ' =>
    rw [q] at k
    exact fun S1 H1 e1 o1 => k σ S1 H1 e1 o1
  | stuck =>
    rw [q] at k
    exact k.elim
end
def oexB (K : PySem.W.Frag) (C : Addr) : Bool := (match K.lookup C with
 | some ⟨.type "type", _, .cls cd, sl⟩ => (match cd.mro, sl.toList with
  | .ref C' :: bm, [_, _, _, _, some (.builtin n), _] => C' == C && n == "ValueError.__new__" && !cd.hasDel && cd.hasDict && PySem.HandSPX.refsVE bm
  | _, _ => false)
 | _ => false) && (PySem.W.findIn K (.ref C) "__setattr__" == some (some (.builtin "object.__setattr__"))) && (PySem.W.subIn K (.ref C) (.type "BaseException") == some true) && (PySem.W.typeIn K (.ref C) == some (.type "type")) && PySem.W.keepIn K (.ref C)
theorem oexB_ok {K : PySem.W.Frag} {C : Addr} (e : oexB K C = true) : OexC K C := by
 unfold oexB at e
 simp only [Bool.and_eq_true, beq_iff_eq] at e
 obtain ⟨⟨⟨⟨q, h1⟩, h2⟩, h3⟩, h4⟩ := e
 refine ⟨?_, h1, h2, h3, h4⟩
 split at q
 ·rename_i dd cd sl ho
  split at q
  ·rename_i C' bm k0 k1 k2 k3 n k5 hm hs
   simp only [Bool.and_eq_true, beq_iff_eq, Bool.not_eq_true'] at q
   obtain ⟨⟨⟨⟨rfl, rfl⟩, hdel⟩, hdict⟩, ht⟩ := q
   obtain ⟨nm, bs, mro, ns, qn, hd, sn, sub, ab, col, del⟩ := cd
   dsimp only at hm hdel hdict
   subst hm hdel hdict
   have hsl : sl = #[k0, k1, k2, k3, some (.builtin "ValueError.__new__"), k5] := by
    obtain ⟨l⟩ := sl
    simp only at hs
    rw [hs]
   subst hsl
   exact ⟨nm, qn, ns, bs, bm, sn, sub, ab, col, dd, k0, k1, k2, k3, k5, ho, ht⟩
  ·cases q
 ·cases q
def exIB (c b : Str) (fs : List Str) (K : PySem.W.Frag) : Bool := match clsAt K c, clsAt K b with
 | some C, some C0 => oexB K C && fs.all (fun f => PySem.W.findIn K (.ref C) f == some none) && (PySem.W.findIn K (.ref C) "__init__" == some (some (.ref (He.fAd K (c, some "__init__"))))) && (PySem.W.typeIn K (.ref (He.fAd K (c, some "__init__"))) == some (.type "function")) && PySem.W.readsIn K C0 (.type "type")
  && (match PySem.W.findCls K (.ref C0) (.type "type") "__init__" with
   | some (.val (.builtin "ValueError.__init__")) => true
   | _ => false)
 | _, _ => false
theorem exIIs_of {fa : List He.Fa} {fn : List He.DefD} {K : PySem.W.Frag} {h : Heap} {mg : Str -> Option Value} {c b qual : Str} {fs : List Str} {params : Arguments} {body : List Stmt} {scope : Scope} (X : K.In h) (Gm : h.Ns mainGlobals mg) (e : exIB c b fs K = true) (sd : He.SaysD fa fn K) (i : Nat)
    (hi : fn[i]? = some ⟨(c, some "__init__"), "__init__", qual, params, body, scope, [], []⟩) : ExIIs K mg c b fs qual params body scope := by
  unfold exIB at e
  cases ec : clsAt K c with
  | none => rw [ec] at e; cases e
  | some C =>
    cases eb : clsAt K b with
    | none => rw [ec, eb] at e; cases e
    | some C0 =>
      rw [ec, eb] at e
      simp only [Bool.and_eq_true, beq_iff_eq] at e
      obtain ⟨⟨⟨⟨⟨q1, q2⟩, q3⟩, q4⟩, q5⟩, q6⟩ := e
      obtain ⟨fd, F⟩ := sd.def_ i hi
      refine ⟨C, _, C0, fd, clsAt_mg X Gm ec, oexB_ok q1, fun f hf => beq_iff_eq.mp (List.all_eq_true.mp q2 f hf), q3, q4, F, clsAt_mg X Gm eb, q5, ?_⟩
      split at q6
      · assumption
      · cases q6
def mXf (i : Nat) (f : Str) : ME -> MR := fun ρ => match ρ[i]? with
 | some (.v (.exf ns vs)) => match (ns.zip vs).lookup f with
  | some d => .ok (.v d, ρ)
  | none => .stuck
 | _ => .stuck
def NoF (G : Gd) (T : ETab) (f : Str) : Prop := ∀ c l C, T.lookup c = some l -> G.mg c = some (.ref C) -> PySem.W.findIn G.K (.ref C) f = some none
theorem zip_lookup {G : Gd} {S : Hp} {f : Str} : ∀ {ns : List Str} {us : List V} {vs : List D} {d : D}, ns.length = us.length -> Reps G S us vs -> (ns.zip vs).lookup f = some d -> ∃ u, (ns.zip us).lookup f = some u /\ Rep G S u d
 | [], _, _, _, _, _, e => by cases e
 | n :: ns, [], vs, d, hl, r, e => by cases hl
 | n :: ns, u :: us, [], d, hl, r, e => by cases e
 | n :: ns, u :: us, v :: vs, d, hl, r, e => by
  simp only [Reps] at r
  obtain ⟨u', ur, q1, q2, q3⟩ := r
  cases q1
  rw [List.zip_cons_cons, List.lookup_cons] at e ⊢
  cases h : f == n with
  | true =>
   rw [h] at e
   cases e
   exact ⟨u, rfl, q2⟩
  | false =>
   rw [h] at e
   exact zip_lookup (by simpa using hl) q3 e
section
variable {X : Cx} {T : ETab} {W : WX} {a : Addr} {oe : Obj} {pn : List (Addr × Obj)} {c y fld : Str} {l : List Str} {C : Addr} {p1 pos : Pos} {dd : Option Addr}
theorem xf_walk {i : Nat} {σ : SV} {H : Hp} {Q : VK} (hz : Zc (.ref C) dd oe) (h : tM (gOf (X.suite a ((a, oe) :: pn))) W (mXf i fld) σ H Q) : tXf a (.ref C) dd C fld (tVar i) σ H Q := by
 obtain ⟨B, Fr, S, ρ, o, k⟩ := h
 unfold mXf at k
 cases e : ρ[i]? with
 | none => rw [e] at k; exact k.elim
 | some s =>
  rw [e] at k
  cases s with
  | no => exact k.elim
  | pt _ => exact k.elim
  | bor _ _ => exact k.elim
  | hp _ => exact k.elim
  | own _ => exact k.elim
  | box _ => exact k.elim
  | v z =>
   cases z <;> first | exact k.elim | skip
   rename_i ns vs
   dsimp only at k
   cases el : (ns.zip vs).lookup fld with
   | none => rw [el] at k; exact k.elim
   | some d =>
    rw [el] at k
    obtain ⟨x, q1, q2⟩ := o.vs i _ e
    simp only [Rep] at q2
    obtain ⟨a', dx, us, q3, rfl, hs, hl, r⟩ := q2
    rw [xa_suite] at q3
    injection q3 with q3
    injection q3 with q3 q4
    subst q3
    have hh := (o.st dx _ hs).resolve_right fun z => z.1.elim
    obtain ⟨u, z1, z2⟩ := zip_lookup hl r el
    exact ⟨.ref a, q1, rfl, rfl, dx, _, u, hz.2.symm.trans q4, hh, z1, k u S H Ext.refl (o.push z2)⟩
theorem me_xf (i : Nat) (f : ExOne (gOf X) T c l C) (lc : T.lookup c = some l) (nf : NoF (gOf X) T fld) (hz : Zc (.ref C) dd oe) (hfl : ∃ vs, oe.data = .fields vs) (hN : X.N[i]? = some y := by rfl) (hv : Vis X.env.scope y := by first | exact Or.inl rfl | exact Or.inr (Or.inl rfl) | exact Or.inr (Or.inr rfl))
    (hd : (y == ("__debug__" : Str)) = false := by decide) (hcd : (y == ("__classdict__" : Str)) = false := by decide) (hb : attributeBase (.Name y p1) fld (X.suite a ((a, oe) :: pn)).env (eval (.Name y p1) (X.suite a ((a, oe) :: pn)).env) = eval (.Name y p1) (X.suite a ((a, oe) :: pn)).env := by rfl) :
    PE (X.suite a ((a, oe) :: pn)) (.Attribute (.Name y p1) fld pos) (tM (gOf (X.suite a ((a, oe) :: pn))) W (mXf i fld)) :=
  PE.imp (pe_xf (X := X) (C := C) ⟨f.c.hg, f.c.hk, f.c.hs, f.c.hd⟩ (nf c l C lc f.g) hz hfl (pe_var hN hv hd hcd) hb) fun _ _ _ h => xf_walk hz h
end
def noFB (T : ETab) (f : Str) (K : PySem.W.Frag) : Bool := T.all fun q => match clsAt K q.1 with
 | some C => PySem.W.findIn K (.ref C) f == some none
 | none => false
theorem noFB_ok {P : Program} {w : World} {K : PySem.W.Frag} {h : Heap} {mg : Str -> Option Value} {T : ETab} {f : Str} (X : K.In h) (Gm : h.Ns mainGlobals mg) (e : noFB T f K = true) : NoF ⟨P, w, K, mg, none⟩ T f := by
 intro c l C hl hm
 have q := List.all_eq_true.mp e (c, l) (lookup_mem hl)
 dsimp only at q
 cases ec : clsAt K c with
 | none => rw [ec] at q; cases q
 | some D =>
  rw [ec] at q
  have z := hm.symm.trans (clsAt_mg X Gm ec)
  injection z with z
  injection z with z
  subst z
  exact beq_iff_eq.mp q
def mGetV (i : Nat) (mi mx : ME -> MR) : ME -> MR := fun ρ => match slotD ρ i with
 | some (.dK _ _) => frz (mi ρ) fun d ρ1 => frz (mx ρ1) fun z ρ2 => match slotD ρ2 i with
  | some (.dK ks vs) => match key? d with
   | some k => .ok (.v ((valD ks vs k).getD z), ρ2)
   | none => .stuck
  | _ => .stuck
 | _ => .stuck
theorem wr_getV {ρ : ME} {i : Nat} {a b : ME -> MR} {Q : Slot -> ME -> Prop} {ks0 : List Key} {vs0 : List D} (hm : slotD ρ i = some (.dK ks0 vs0)) (h : WD (a ρ) fun j ρ1 => WD (b ρ1) fun z ρ2 => ∃ ks vs k, slotD ρ2 i = some (.dK ks vs) /\ key? j = some k /\ Q (.v ((valD ks vs k).getD z)) ρ2) : WR (mGetV i a b ρ) Q := by
 unfold mGetV
 rw [hm]
 dsimp only
 refine frz_ok ?_
 obtain ⟨s, ρ1, e, d, e2, h⟩ := h
 refine ⟨s, ρ1, e, d, e2, frz_ok ?_⟩
 obtain ⟨s3, ρ3, e3, d3, e4, ks, vs, k, e5, e6, q⟩ := h
 exact ⟨s3, ρ3, e3, d3, e4, _, _, by rw [e5, e6], q⟩
section
variable {G : Gd} {B : BxA} {Fr S : Hp} {ρ : ME} {σ : SV} {H : Hp}
theorem set_at (ρ : ME) (k : Nat) (s : Slot) (i : Nat) {t : Slot} (h : (ρ.set k s)[i]? = some t) : (i = k /\ t = s) \/ (i ≠ k /\ ρ[i]? = some t) := by
 by_cases e : k = i
 ·subst e
  have hl : k < (ρ.set k s).length := (List.getElem?_eq_some_iff.mp h).1
  rw [List.length_set] at hl
  rw [List.getElem?_set_self hl] at h
  exact .inl ⟨rfl, (Option.some.inj h).symm⟩
 ·rw [List.getElem?_set_ne e] at h
  exact .inr ⟨fun q => e q.symm, h⟩
theorem Ok.swap {s s' : Slot} {d : D} {k : Nat} {B' : BxA} (h : Ok G B Fr S ρ σ H) (e : ρ[k]? = some s) (h1 : s.held = some d) (h2 : s'.held = some d) (n1 : ∀ d, s' ≠ .v d) (n2 : ∀ j d, s' ≠ .bor j d) (n3 : ∀ j, s' ≠ .pt j) (n4 : ∀ cs, s' ≠ .hp cs) (al : B'.al = B.al)
    (bx : ∀ (i : Nat) (d : D), (ρ.set k s')[i]? = some (.box d) -> σ[i]? = some (some (V.ref B'.ad))) : Ok G B' Fr S (ρ.set k s') σ H := by
  have back : ∀ (i : Nat) (t : Slot) (d' : D), (ρ.set k s')[i]? = some t -> t.held = some d' -> ∃ t', ρ[i]? = some t' /\ t'.held = some d' := by
    intro i t d' hi ht
    rcases set_at ρ k s' i hi with ⟨rfl, rfl⟩ | ⟨_, hi⟩
    · rw [h2] at ht; cases ht; exact ⟨s, e, h1⟩
    · exact ⟨t, hi, ht⟩
  refine ⟨h.fr, h.st, by rw [List.length_set]; exact h.len, fun i d' hi => ?_, fun i t d' hi ht => ?_, bx, fun i j t u d' e' a hij hi ht hj hu => ?_, ⟨fun i cs hi => ?_, fun i j cs es hi hj => ?_⟩⟩
  · rcases set_at ρ k s' i hi with ⟨_, q⟩ | ⟨_, hi⟩
    · exact absurd q.symm (n1 d')
    · exact h.vs i d' hi
  · obtain ⟨t', hi', ht'⟩ := back i t d' hi ht
    exact h.ow i t' d' hi' ht'
  · obtain ⟨t', hi', ht'⟩ := back i t d' hi ht
    obtain ⟨u', hj', hu'⟩ := back j u e' hj hu
    exact h.inj i j t' u' d' e' a hij hi' ht' hj' hu'
  · rcases set_at ρ k s' i hi with ⟨_, q⟩ | ⟨_, hi⟩
    · exact absurd q.symm (n4 cs)
    · obtain ⟨α, c⟩ := h.ce.ex i cs hi
      refine ⟨α, ⟨by rw [al]; exact c.pre, c.len, c.at_, c.tu, c.one, fun j t d' l ce a hj ht => ?_, fun j l hj => ?_, fun j l d' hj => ?_⟩⟩
      · obtain ⟨t', hj', ht'⟩ := back j t d' hj ht
        exact c.off j t' d' l ce a hj' ht'
      · rcases set_at ρ k s' j hj with ⟨_, q⟩ | ⟨_, hj⟩
        · exact absurd q.symm (n3 l)
        · exact c.pt j l hj
      · rcases set_at ρ k s' j hj with ⟨_, q⟩ | ⟨_, hj⟩
        · exact absurd q.symm (n2 l d')
        · exact c.bo j l d' hj
  · rcases set_at ρ k s' i hi with ⟨_, q⟩ | ⟨_, hi⟩
    · exact absurd q.symm (n4 cs)
    · rcases set_at ρ k s' j hj with ⟨_, q⟩ | ⟨_, hj⟩
      · exact absurd q.symm (n4 es)
      · exact h.ce.un i j cs es hi hj
end
def mIdxV (k : Nat) (mi : ME -> MR) : ME -> MR := fun ρ => match slotD ρ k with
 | some (.lst _) => frz (mi ρ) fun d ρ1 => match d, slotD ρ1 k with
  | .int i, some (.lst ds) => (match ints? ds with
   | some ns => if i ∈ ns then .ok (.v (.int (ns.idxOf i : Nat)), ρ1) else .stuck
   | none => .stuck)
  | _, _ => .stuck
 | _ => .stuck
def mTwo (i j : Nat) (ds es : List Int) : ME -> MS := fun ρ => .ok (.nx ((ρ.set j (.own (.lst (es.map .int)))).set i (.own (.lst (ds.map .int)))))
end Mp
namespace Mp
open PySem PySem.Spec PyProof.Rows L2 PySem.W PySem.Calls
def intKs? : List Key -> Option (List Int)
 | [] => some []
 | .inl i :: ks => (intKs? ks).map (i :: ·)
 | .inr _ :: _ => none
theorem intKs_of : ∀ is : List Int, intKs? (is.map Sum.inl) = some is
 | [] => rfl
 | i :: is => by show (intKs? (is.map Sum.inl)).map _ = _; rw [intKs_of is]; rfl
def gSortedK : D -> Option Slot
 | .dK ks _ => (intKs? ks).map fun ns => .own (.lst ((PySem.W.sortI ns).map .int))
 | _ => none
end Mp
namespace Mp
open PySem PySem.Spec PyProof.Rows L2
def tgSq (n : Nat) (ts : MTs) : MT := fun d ρ => match d with
 | .lst ds => if ds.length = n then ts ds ρ else none
 | d => tgTup n ts d ρ
def DefOkK (P : Program) (w : World) (K : PySem.W.Frag) (mg : Str -> Option Value) (base : Heap) (x : Str) (n np : Nat) (ks : List Str) (ar : List D -> List D -> List D) (f : MF) : Prop :=
 ∃ (a : Addr) (fd : FuncData) (ps : List Str) (k : Nat) (g0 : List Value -> List Value -> List Value) (gV : List V -> List V -> List V), mg x = some (.ref a) /\ PySem.W.keepIn K (.ref a) = true /\ KBn K fd ps np ks g0 gV /\ FnOk P w K mg base (L2.CX P w) n a fd ps (spM ⟨P, w, K, mg, none⟩ k f) /\
  ∀ (S : Hp) (xs zs : List V) (ds es : List D), xs.length = np -> zs.length = ks.length -> Reps ⟨P, w, K, mg, none⟩ S xs ds -> Reps ⟨P, w, K, mg, none⟩ S zs es -> Reps ⟨P, w, K, mg, none⟩ S (gV xs zs) (ar ds es) /\ (ar ds es).length = k
theorem DefOkK.mono {P : Program} {w : World} {K : PySem.W.Frag} {mg : Str -> Option Value} {base : Heap} {c : Str} {n n' np : Nat} {ks : List Str} {ar : List D -> List D -> List D} {f : MF} (h : DefOkK P w K mg base c n np ks ar f) (l : n ≤ n') : DefOkK P w K mg base c n' np ks ar f := by
 obtain ⟨g, fd, ps, k, g0, gV, h1, h2, h3, h4, h5⟩ := h
 exact ⟨g, fd, ps, k, g0, gV, h1, h2, h3, h4.mono l, h5⟩
end Mp
namespace Mp
open PySem PySem.Spec PyProof.Rows L2 SrtO Calls
end Mp
namespace Mp
open PySem PySem.Spec PyProof.Rows L2
def MkOkH (P : Program) (w : World) (K : PySem.W.Frag) (mg : Str -> Option Value) (base : Heap) (c : Str) (n np : Nat) (f : MFH) : Prop :=
 ∃ (C g : Addr) (fd : FuncData) (ps : List Str), mg c = some (.ref C) /\ Mk K C g /\ KBn K fd ps (np + 1) [] (fun us _ => us) (fun vs _ => vs) /\ FnOk P w K mg base (L2.CX P w) n g fd ps (spH ⟨P, w, K, mg, none⟩ (np + 1) f)
theorem MkOkH.mono {P : Program} {w : World} {K : PySem.W.Frag} {mg : Str -> Option Value} {base : Heap} {c : Str} {n n' np : Nat} {f : MFH} (h : MkOkH P w K mg base c n np f) (l : n ≤ n') : MkOkH P w K mg base c n' np f := by
 obtain ⟨C, g, fd, ps, h1, h2, h3, h4⟩ := h
 exact ⟨C, g, fd, ps, h1, h2, h3, h4.mono l⟩
def tCallLS (i : Nat) (f : Addr) (sp : Sp) (E : L2.St -> XK) (t : TA) : TE := fun σ H Q => σ[i]? = some (some (.ref f)) /\ t σ H fun vs H1 => sp vs H1 Q (E σ)
section
variable {X : Cx} {CX : CXT} {k i : Nat} {f : Addr} {fd : FuncData} {ps : List Str} {sp : Sp} {E : L2.St -> XK} {x : Str} {p pos : Pos} {e : Expr} {es : List Expr} {t : TA}
theorem pe_callLS (F : FnOk X.prog X.w X.K X.mg X.base CX k f fd ps sp) (hr : Room k X.A) (hN : X.N[i]? = some x) (hv : Vis X.env.scope x) (hk : PySem.W.keepIn X.K (.ref f) = true) (hb : Binds X.K fd ps []) (hx : ∀ σ, PassesAt CX X σ (E σ)) (ha : PA X (e :: es) t)
    (hdb : (x == ("__debug__" : Str)) = false := by decide) (hcd : (x == ("__classdict__" : Str)) = false := by decide)
    (he : starEach (e :: es) X.env = (false, eval e X.env) :: starEach es X.env := by rfl) (hpl : (backTo pos (starEach es X.env)).any (·.1) = false := by rfl) : PE X (.Call (.Name x p) (e :: es) [] pos) (tCallLS i f sp E t) := by
  refine ⟨fun pins s σ H Q I h => ?_⟩
  obtain ⟨hs, ht⟩ := h
  refine wpAny_Call_Name_kw (thn ((pe_var (pos := p) hN hv hdb hcd).run pins s σ H (fun v H1 => v = .ref f /\ H1 = H) I ⟨.ref f, hs, rfl, rfl⟩) fun u s1 ⟨v, H1, I1, r1, q1⟩ => ?_)
  obtain ⟨rfl, rfl⟩ := q1
  cases r1
  refine PySem.W.callWith_K (h₀ := X.base) I.ok.mod.kin hk (thn (ha.run pos pins s1 σ _ _ I1 ht) fun us s2 ⟨vs, H2, I2, r, q⟩ => ⟨I2.kIn, ?_⟩) he hpl
  exact run_fnS F hr hb (hx σ) I2 r q
end
abbrev DTab := List (Key × Str × MF)
def lookF : DTab -> Key -> Option (Str × MF)
 | [], _ => none
 | (k', p) :: t, k => if k' = k then some p else lookF t k
section
variable {X : Cx} {W : WX} {x y : Str} {n np : Nat} {tab : DTab} {e0 e : Expr} {es : List Expr} {me : ME -> MR} {ms : ME -> ML} {p1 p2 p3 p4 p5 p6 p7 : Pos}
def tDisp (X : Cx) (W : WX) (tab : DTab) (i np : Nat) (ms : ME -> ML) : TE := fun σ H Q => ∃ k z f b, lookF tab k = some (z, f) /\ X.mg z = some (.ref b) /\ σ[i]? = some (some (.ref b)) /\ tCallS (spM (gOf X) np f) (WE W) (tMs (gOf X) W ms) σ H Q
theorem pe_disp (i : Nat) (A : ∀ k z f, lookF tab k = some (z, f) -> DefOk X.prog X.w X.K X.mg X.base z n np f) (hr : Room n X.A) (tk : Takes X W) (hN : X.N[i]? = some y) (hv : Vis X.env.scope y) (ha : PA X (e :: es) (tMs (gOf X) W ms))
    (hc : X.calm = true := by rfl) (hdb : (y == ("__debug__" : Str)) = false := by decide) (hcd : (y == ("__classdict__" : Str)) = false := by decide)
    (he : starEach (e :: es) X.env = (false, eval e X.env) :: starEach es X.env := by rfl) (hpl : (backTo p6 (starEach es X.env)).any (·.1) = false := by rfl) : PE X (.Call (.Name y p5) (e :: es) [] p6) (tDisp X W tab i np ms) := by
  refine ⟨fun pins s σ H Q I h => ?_⟩
  obtain ⟨k, z, f, b, l, m, hs, h⟩ := h
  obtain ⟨a, fd, ps, h1, h2, h3, h4, h5⟩ := A k z f l
  have eg : gOf X = ⟨X.prog, X.w, X.K, X.mg, none⟩ := by unfold gOf; rw [hc]; rfl
  rw [h1] at m
  cases m
  rw [<- eg] at h5
  exact (pe_callLS h5 hr hN hv h2 h3 (passAt tk) ha hdb hcd he hpl).run pins s σ H Q I ⟨hs, h⟩
end
inductive TabOk (P : Program) (w : World) (K : PySem.W.Frag) (mg : Str -> Option Value) (base : Heap) (n np : Nat) : DTab -> Prop
 | nil : TabOk P w K mg base n np []
 | cons {k : Key} {z : Str} {f : MF} {t : DTab} (h : DefOk P w K mg base z n np f) (r : TabOk P w K mg base n np t) : TabOk P w K mg base n np ((k, z, f) :: t)
theorem TabOk.at_ {P : Program} {w : World} {K : PySem.W.Frag} {mg : Str -> Option Value} {base : Heap} {n np : Nat} : ∀ {tab : DTab}, TabOk P w K mg base n np tab -> ∀ k z f, lookF tab k = some (z, f) -> DefOk P w K mg base z n np f
 | _, .nil, k, z, f, l => nomatch l
 | _, .cons h r, k, z, f, l => by
  unfold lookF at l
  split at l
  ·cases l; exact h
  ·exact r.at_ k z f l
abbrev SpE := Addr × Obj -> List V -> Hp -> VK -> Prop
def CF (outer : List Env) (P : Program) (w : World) (H : Hp) (s : Shared) (Q : VK) (r : Result) (s' : Shared) : Prop := match r with
 | .ok (.ret u) => CE outer P w H s Q u s'
 | _ => False
structure FnE (P : Program) (w : World) (K : PySem.W.Frag) (mg : Str -> Option Value) (base : Heap) (k : Nat) (f : Addr) (fd : FuncData) (ps : List Str) (sp : SpE) : Prop where
 len : ∀ p vs H Q, sp p vs H Q -> vs.length = ps.length
 run : ∀ (A : Around) (outer : List Env) (s : Shared) (H : Hp) (args : Args) (us : List Value) (vs : List V) (Q : VK) (p : Addr × Obj), Room k A -> L2H.PinOk outer H s p -> Env0 P w K mg base (A.mark (some (.ref p.1))) outer s H -> BindsTo s fd args (ps.zip us) -> Vals vs us -> sp p vs H Q ->
  codeAny (model P w) (A.mark (some (.ref p.1))) (.call (.ref f) args) (CF outer P w H s Q) s
theorem FnE.mono {P : Program} {w : World} {K : PySem.W.Frag} {mg : Str -> Option Value} {base : Heap} {k j : Nat} {f : Addr} {fd : FuncData} {ps : List Str} {sp : SpE} (F : FnE P w K mg base k f fd ps sp) (h : k ≤ j) : FnE P w K mg base j f fd ps sp :=
 ⟨F.len, fun A outer s H args us vs Q p hr => F.run A outer s H args us vs Q p (hr.mono h)⟩
def spE (P : Program) (w : World) (K : PySem.W.Frag) (mg : Str -> Option Value) (T : ETab) (k : Nat) (f : Str -> MF) : SpE := fun p vs H Q =>
 ∃ c l C dd, ExOne ⟨P, w, K, mg, none⟩ T c l C /\ T.lookup c = some l /\ Zc (.ref C) dd p.2 /\ (∃ fs, p.2.data = .fields fs) /\ spM ⟨P, w, K, mg, some (p.1, p.2.dict)⟩ k (f c) vs H Q fun _ _ _ => False
def DefOkE (P : Program) (w : World) (K : PySem.W.Frag) (mg : Str -> Option Value) (base : Heap) (T : ETab) (x : Str) (n k : Nat) (f : Str -> MF) : Prop :=
 ∃ (a : Addr) (fd : FuncData) (ps : List Str), mg x = some (.ref a) /\ PySem.W.keepIn K (.ref a) = true /\ Binds K fd ps [] /\ ps.length = k /\ FnE P w K mg base n a fd ps (spE P w K mg T k f)
theorem DefOkE.mono {P : Program} {w : World} {K : PySem.W.Frag} {mg : Str -> Option Value} {base : Heap} {T : ETab} {x : Str} {n m k : Nat} {f : Str -> MF} (h : DefOkE P w K mg base T x n k f) (l : n ≤ m) : DefOkE P w K mg base T x m k f := by
 obtain ⟨a, fd, ps, h1, h2, h3, h4, h5⟩ := h
 exact ⟨a, fd, ps, h1, h2, h3, h4, h5.mono l⟩
def uOf (K : PySem.W.Frag) (x : Str) : Value := match PySem.W.nsIn K mainGlobals x with
 | some (some u) => u
 | _ => Value.none
def esOf (K : PySem.W.Frag) (x : Str) : List DictEntry := (dicAt? K (uOf K x)).getD []
end Mp
namespace Mp
open PySem PySem.Spec
open PyProof.Rows hiding cutD
open L2 hiding way
def gStr : D -> Option Slot
 | .int i => if i.natAbs.log2 < 1920 then some (.v (.str (Str.ofString (toString i)))) else none
 | .str a => some (.v (.str a))
 | _ => none
def rStr : List V -> Hp -> VK -> Prop := fun xs H Q => (∃ i : Int, xs = [.int i] /\ i.natAbs.log2 < 1920 /\ Q (.str (Str.ofString (toString i))) H) \/ ∃ a, xs = [.str a] /\ Q (.str a) H
theorem cr_str {X : Cx} : CallR X (.type "str") rStr := fun pins s σ H vs us Q I r h => h.elim (call_str_int pins s σ H vs us Q I r) (SkE.call_str_str pins s σ H vs us Q I r)
theorem sem_str {G : Gd} : SemC G rStr (g1 gStr) := by
 intro B Fr S ρ σ H xs ds s Q o rx hg k
 obtain ⟨d, rfl, hg2⟩ := g1_some hg
 obtain ⟨x, rfl, hx⟩ := reps1 rx
 clear hg
 cases d with
 | int i =>
  unfold gStr at hg2
  dsimp only at hg2
  split at hg2
  ·rename_i hl
   cases hg2
   simp only [Rep] at hx
   subst hx
   exact .inl ⟨i, rfl, hl, k.str o⟩
  ·cases hg2
 | str a =>
  cases hg2
  simp only [Rep] at hx
  subst hx
  exact .inr ⟨a, rfl, k.str o⟩
 | _ => cases hg2
def gIntS : D -> Option Slot
 | .str a => if a.length ≤ 640 then (PySem.intText? a).map fun n => .v (.int n) else none
 | d => gInt d
def rIntS : List V -> Hp -> VK -> Prop := fun xs H Q => (∃ a n, xs = [.str a] /\ PySem.intText? a = some n /\ a.length ≤ 640 /\ Q (.int n) H) \/ ((∃ i, xs = [.int i] /\ Q (.int i) H) \/ ∃ k, xs = [.bl k] /\ Q (.int (if k then 1 else 0)) H)
theorem cr_intS {X : Cx} : CallR X (.type "int") rIntS := fun pins s σ H vs us Q I r h => h.elim (call_int_str pins s σ H vs us Q I r) (call_int1 pins s σ H vs us Q I r)
theorem sem_intS {G : Gd} : SemC G rIntS (g1 gIntS) := by
 intro B Fr S ρ σ H xs ds s Q o rx hg k
 obtain ⟨d, rfl, hg2⟩ := g1_some hg
 by_cases hd : ∃ a, d = .str a
 ·obtain ⟨a, rfl⟩ := hd
  obtain ⟨x, rfl, hx⟩ := reps1 rx
  unfold gIntS at hg2
  dsimp only at hg2
  split at hg2
  ·rename_i hl
   rw [Option.map_eq_some_iff] at hg2
   obtain ⟨n, hn, rfl⟩ := hg2
   simp only [Rep] at hx
   subst hx
   exact .inl ⟨a, n, rfl, hn, hl, k.int o⟩
  ·cases hg2
 ·have e : gIntS d = gInt d := by
   cases d <;> first | rfl | exact absurd ⟨_, rfl⟩ hd
  rw [e] at hg2
  exact .inr (sem_int o rx (show g1 gInt [d] = some s from hg2) k)
def mSplit (mo me : ME -> MR) : ME -> MR := fun ρ => frz (mo ρ) fun d ρ1 => match d with
 | .str a => frz (me ρ1) fun e ρ2 => match e with
  | .str b => if decide (b.length ≠ 0) && decide (a.length < 1000000) then .ok (.own (.lst ((Txt.split a b).map .str)), ρ2) else .stuck
  | _ => .stuck
 | _ => .stuck
theorem reps_strs {G : Gd} {S : Hp} : ∀ ys : List Str, Reps G S (ys.map V.str) (ys.map .str)
 | [] => Reps.nil
 | y :: ys => Reps.cons (by simp only [Rep]) (reps_strs ys)
def strsD : List D -> Option (List Str)
 | [] => some []
 | .str a :: ds => (strsD ds).map (a :: ·)
 | _ => none
theorem strsD_is : ∀ {ds : List D} {ys : List Str}, strsD ds = some ys -> ds = ys.map .str
 | [], ys, h => by cases h; rfl
 | .str a :: ds, ys, h => by
  unfold strsD at h
  rw [Option.map_eq_some_iff] at h
  obtain ⟨zs, h, rfl⟩ := h
  rw [strsD_is h]; rfl
 | .non :: _, _, h => by cases h
 | .bl _ :: _, _, h => by cases h
 | .int _ :: _, _, h => by cases h
 | .tup _ :: _, _, h => by cases h
 | .ktp _ :: _, _, h => by cases h
 | .lst _ :: _, _, h => by cases h
 | .kdc _ _ :: _, _, h => by cases h
 | .dK _ _ :: _, _, h => by cases h
 | .dT _ _ :: _, _, h => by cases h
 | .ins _ _ _ :: _, _, h => by cases h
 | .scr _ :: _, _, h => by cases h
 | .exn :: _, _, h => by cases h
 | .exf _ _ :: _, _, h => by cases h
theorem strsD_map : ∀ ys : List Str, strsD (ys.map .str) = some ys
 | [] => rfl
 | y :: ys => by
  show (strsD (ys.map .str)).map (y :: ·) = _
  rw [strsD_map ys]; rfl
theorem reps_strs_eq {G : Gd} {S : Hp} : ∀ {ys : List Str} {vs : List V}, Reps G S vs (ys.map .str) -> vs = ys.map V.str
 | [], vs, r => by simpa only [List.map_nil, Reps] using r
 | y :: ys, vs, r => by
  simp only [List.map_cons, Reps] at r
  obtain ⟨v, vr, rfl, h, r⟩ := r
  simp only [Rep] at h
  rw [h, reps_strs_eq r]; rfl
def mJoin (mo me : ME -> MR) : ME -> MR := fun ρ => frz (mo ρ) fun d ρ1 => match d with
 | .str a => frz (me ρ1) fun e ρ2 => match e with
  | .lst ds => (match strsD ds with
   | some ys => if (ys.map (·.length)).sum + ys.length * a.length ≤ 1000000 then .ok (.v (.str (Txt.join a ys)), ρ2) else .stuck
   | none => .stuck)
  | _ => .stuck
 | _ => .stuck
section
variable {X : Cx} {W : WX} {o e : Expr} {mo me : ME -> MR} {apos pos : Pos}
theorem me_split (ho : PE X o (tM (gOf X) W mo)) (he : PE X e (tM (gOf X) W me)) (hs : starEach [e] X.env = [(false, eval e X.env)] := by rfl) (hbase : attributeBase o "split" X.env (eval o X.env) = eval o X.env := by rfl) (hline : (apos.endLine == pos.line) = true := by rfl) :
    PE X (.Call (.Attribute o "split" apos) [e] [] pos) (tM (gOf X) W (mSplit mo me)) := PE.imp (pe_split ho he hs hbase hline) fun σ H Q q => by
  have hz : sizeLine = 16777216 := sizeLine_eq
  obtain ⟨B, Fr, S, ρ, o, c⟩ := q
  refine opnd o c fun d ρ1 x S1 H1 e1 o1 r1 c1 => ?_
  cases d with
  | str a =>
    simp only [Rep] at r1
    refine ⟨⟨a, r1⟩, opnd o1 c1 fun e ρ2 y S2 H2 e2 o2 r2 c2 => ?_⟩
    cases e with
    | str b =>
      dsimp only at c2
      split at c2
      · rename_i hb
        rw [Bool.and_eq_true, decide_eq_true_eq, decide_eq_true_eq] at hb
        simp only [Rep] at r2
        subst r2
        refine ⟨a, b, r1, rfl, by simpa using hb.1, by omega, fun p hp => ?_⟩
        exact c2 (.ref p) S2 _ Ext.refl (o2.newOwn (d := .lst ((Txt.split a b).map .str)) hp ⟨_, rfl, reps_strs _⟩)
      · exact c2.elim
    | _ => exact c2.elim
  | _ => exact c1.elim
theorem me_join (ho : PE X o (tM (gOf X) W mo)) (he : PE X e (tM (gOf X) W me)) (hs : starEach [e] X.env = [(false, eval e X.env)] := by rfl) (hbase : attributeBase o "join" X.env (eval o X.env) = eval o X.env := by rfl) (hline : (apos.endLine == pos.line) = true := by rfl) :
    PE X (.Call (.Attribute o "join" apos) [e] [] pos) (tM (gOf X) W (mJoin mo me)) := PE.imp (pe_join ho he hs hbase hline) fun σ H Q q => by
  obtain ⟨B, Fr, S, ρ, o, c⟩ := q
  refine opnd o c fun d ρ1 x S1 H1 e1 o1 r1 c1 => ?_
  cases d with
  | str a =>
    simp only [Rep] at r1
    refine ⟨⟨a, r1⟩, opnd o1 c1 fun e ρ2 y S2 H2 e2 o2 r2 c2 => ?_⟩
    cases e with
    | lst ds =>
      dsimp only at c2
      split at c2
      · rename_i ys hys
        split at c2
        · rename_i hl
          rw [strsD_is hys] at r2
          simp only [Rep] at r2
          obtain ⟨p, vs, rfl, h, r⟩ := r2
          rw [reps_strs_eq r] at h
          exact ⟨a, p, ys, r1, rfl, .inl (SqL.of (o2.lstAt h)), by omega, c2 _ S2 _ Ext.refl (o2.push (by simp only [Rep]))⟩
        · exact c2.elim
      · exact c2.elim
    | _ => exact c2.elim
  | _ => exact c1.elim
end
section
variable {ρ : ME} {Q : Slot -> ME -> Prop} {mo me : ME -> MR}
theorem wr_split (h : WD (mo ρ) fun d ρ1 => ∃ a, d = .str a /\ a.length < 1000000 /\ WD (me ρ1) fun e ρ2 => ∃ b, e = .str b /\ b.length ≠ 0 /\ Q (.own (.lst ((Txt.split a b).map .str))) ρ2) : WR (mSplit mo me ρ) Q := by
 refine frz_ok ?_
 obtain ⟨s, ρ1, e, d, e2, a, rfl, la, s2, ρ2, e3, d2, e4, b, rfl, lb, q⟩ := h
 refine ⟨s, ρ1, e, _, e2, ?_⟩
 refine frz_ok ⟨s2, ρ2, e3, _, e4, _, _, ?_, q⟩
 dsimp only
 rw [decide_eq_true lb, decide_eq_true la]; rfl
theorem wr_join (h : WD (mo ρ) fun d ρ1 => ∃ a, d = .str a /\ WD (me ρ1) fun e ρ2 => ∃ ys : List Str, e = .lst (ys.map .str) /\ (ys.map (·.length)).sum + ys.length * a.length ≤ 1000000 /\ Q (.v (.str (Txt.join a ys))) ρ2) : WR (mJoin mo me ρ) Q := by
 refine frz_ok ?_
 obtain ⟨s, ρ1, e, d, e2, a, rfl, s2, ρ2, e3, d2, e4, ys, rfl, l, q⟩ := h
 refine ⟨s, ρ1, e, _, e2, ?_⟩
 refine frz_ok ⟨s2, ρ2, e3, _, e4, _, _, ?_, q⟩
 dsimp only
 rw [strsD_map]
 dsimp only
 rw [if_pos l]
end
def signD (c : Nat) : D := .str ⟨#[c]⟩
def mItS (m : ME -> MR) : ME -> MI := fun ρ => frzI (m ρ) fun d ρ1 => match d with
 | .str z => .ok (z.cps.toList.map signD, ρ1)
 | _ => .stuck
theorem mi_str {X : Cx} {W : WX} {tg e : Expr} {m : ME -> MR} (he : PE X e (tM (gOf X) W m)) : PI X tg e (tI (gOf X) W (mItS m)) := PI.imp (pi_str he) fun σ H R h => by
 obtain ⟨B, Fr, S, ρ, o, q⟩ := h
 refine opndI o q fun d ρ1 x S1 H1 e1 o1 r1 c1 => ?_
 cases d with
 | str z =>
  simp only [Rep] at r1
  refine ⟨z, r1, c1 _ S1 H1 Ext.refl o1 ⟨fun i B Fr S' ρ σ H hi _ sm o => ?_, fun B Fr S' ρ σ H _ sm o => ?_, fun i B Fr S' ρ σ H x H' hi _ sm o y => ?_⟩⟩
  ·show i < z.cps.size
   simpa using hi
  ·show z.cps.size ≤ _
   simp
  ·obtain ⟨rfl, c, hc, rfl⟩ := y
   refine ⟨S', signD c, Ext.refl, o, ?_, by simp only [signD, Rep]⟩
   rw [List.getElem?_map, Array.getElem?_toList, hc]; rfl
 | _ => exact c1.elim
theorem wi_str {ρ : ME} {QI : List D -> ME -> Prop} {a : ME -> MR} (h : WD (a ρ) fun d ρ1 => ∃ z : Str, d = .str z /\ QI (z.cps.toList.map signD) ρ1) : WI (mItS a ρ) QI := by
 obtain ⟨s, ρ1, e, d, e2, z, rfl, q⟩ := h
 refine ⟨_, ρ1, ?_, q⟩
 unfold mItS frzI
 rw [e]
 cases s <;> cases e2 <;> rfl
def gInS : D -> D -> Option Slot
 | .str a, .str z => (match a.cps.toList with
  | [c] => some (.v (.bl (decide (c ∈ z.cps.toList))))
  | _ => none)
 | _, _ => none
theorem sem_inS {G : Gd} : Sem2 G (fun x y H Q => ∃ (c : Nat) (z : Str), x = .str ⟨#[c]⟩ /\ y = .str z /\ Q (.bl (decide (c ∈ z.cps.toList))) H) gInS := by
 intro B Fr S ρ σ H x y d e s Q o rx ry hg k
 cases d with
 | str a =>
  cases e with
  | str z =>
   simp only [Rep] at rx ry
   subst rx ry
   unfold gInS at hg
   dsimp only at hg
   split at hg
   ·rename_i c hc
    cases hg
    have ea : a = ⟨#[c]⟩ := by
     obtain ⟨⟨l⟩⟩ := a
     have hc : l = [c] := hc
     rw [hc]
    exact ⟨c, z, by rw [ea], rfl, k.bl o⟩
   ·cases hg
  | _ => cases hg
 | _ => cases e <;> cases hg
theorem inS_is (c : Nat) (z : Str) : gInS (signD c) (.str z) = some (.v (.bl (decide (c ∈ z.cps.toList)))) := rfl
theorem ext_tup (l : Addr) (items : Array Value) (n : Nat) (b : Addr) (items2 : Array Value) (n2 : Nat) (dd : Option Addr) (sl : Array (Option Value)) (hs0 : ¬(!items.isEmpty && Builtin.List.listTooLong (items.size + items2.size)) = true) (hs1 : items.size ≤ sizeLine) (hs2 : items.size + items2.size ≤ sizeLine + 1) :
    Meets (Builtin.«list.extend» ⟨[.ref l, .ref b], []⟩) (fun _ R s => s.heap.get? l = some { cls := .type "list", dict := none, data := .seq items n, slots := #[] } /\ s.heap.get? b = some { cls := .type "tuple", dict := dd, data := .seq items2 n2, slots := sl } /\ R (.ok (.ret Value.none)) { s with heap := s.heap.update l (Obj.mapSeq fun x => x ++ items2), toks := s.toks }) :=
  .of_wp fun prog w A R s h => by
    obtain ⟨hp, g, d, tk, os⟩ := s; obtain ⟨hl, hb, h⟩ := h; have f1 := PySem.AutoSeq1.idx_int; have f2 := PySem.AutoSeq1.sub_tuple_tuple; have f3 := PySem.AutoSeq1.sub_list_list; have f4 := PySem.AutoSeq1.sub_tuple_list; have f5 := PySem.AutoSeq1.sub_list_tuple;
    have hz' : (items ++ items2).size ≤ sizeLine + 1 := by rw [Array.size_append]; exact hs2
    wp_walk using (wpAny_updateSeq hl rfl (hz := hs1) (_hz' := hz')), PySem.AutoSeq1.wpAny_loadPart' hl, PySem.AutoSeq1.wpAny_loadPart' hb; exact ⟨_, rfl, h⟩
def rExtendT (K : PySem.W.Frag) : V -> List V -> Hp -> VK -> Prop := fun x vs H Q => ∃ l b xs zs, x = .ref l /\ vs = [.ref b] /\ H l = some (.lst xs) /\ SqT K H b zs /\ xs.length + zs.length ≤ sizeLine /\ Q .non (upd H l (.lst (xs ++ zs)))
theorem mt_extendT {X : Cx} : MtM X "list.extend" (rExtendT X.K) := by
 intro pins s σ H x vs v us Q I rx rv h
 obtain ⟨l, b, xs, zs, rfl, rfl, hH, hB, hz, q⟩ := h
 cases rx
 obtain ⟨u, rfl, ru⟩ := rv.one
 cases ru
 obtain ⟨z, its, n, r, hl, e⟩ := I.lstM hH
 obtain ⟨its2, r2, ⟨o2, e2, c2, n2, d2⟩, hl2⟩ := I.tuple hB
 obtain ⟨oc, od, odat, osl⟩ := o2
 have c2 : oc = .type "tuple" := c2
 have d2 : odat = .seq its2.toArray n2 := d2
 subst c2 d2
 have rl := r.length
 have rl2 := r2.length
 have hsz : its.toArray.size + its2.toArray.size ≤ sizeLine := by rw [List.size_toArray, List.size_toArray]; omega
 have hlong : ¬ (!its.toArray.isEmpty && Builtin.List.listTooLong (its.toArray.size + its2.toArray.size)) = true := by
  rw [notLongL hsz, Bool.and_false]
  exact Bool.false_ne_true
 refine call_meets F.slot_list_extend ⟨_, e, rfl⟩ F.entry_list_extend (F.args_list_extend_2 _ _)
  (ext_tup l its.toArray n b its2.toArray n2 od osl hlong (by omega) (by omega)) ⟨e, e2, ?_⟩
 refine ⟨.non, _, I.lset (its' := its ++ its2) hH e (by simp) (r.append r2) ?_, rfl, q⟩
 rw [List.length_append]
 omega
def mExtT (k : Nat) (me : ME -> MR) : ME -> MR := fun ρ => match heldAt ρ k with
 | some (.lst _) => frz (me ρ) fun e ρ1 => match e, heldAt ρ1 k with
  | .tup es, some (.lst ds) => if ds.length + es.length < 1000000 then .ok (.v .non, putAt ρ1 k (.lst (ds ++ es))) else .stuck
  | _, _ => .stuck
 | _ => .stuck
section
variable {X : Cx} {W : WX} {apos cpos p : Pos} {e : Expr} {me : ME -> MR} {x : Str}
theorem me_extT (k : Nat) (he : PE X e (tM (gOf X) W me)) (hN : X.N[k]? = some x := by rfl) (hv : Vis X.env.scope x := by first | exact Or.inl rfl | exact Or.inr (Or.inl rfl) | exact Or.inr (Or.inr rfl)) (hd : (x == ("__debug__" : Str)) = false := by decide) (hcd : (x == ("__classdict__" : Str)) = false := by decide)
    (hst : starEach [e] X.env = (false, eval e X.env) :: starEach [] X.env := by rfl)
    (hbase : attributeBase (.Name x p) "extend" X.env (eval (.Name x p) X.env) = eval (.Name x p) X.env := by rfl)
    (hfew : ((backTo cpos (starEach [e] X.env)).all (fun x => !x.1) && (backToKw cpos (keywordEach [] X.env)).all (fun x => x.1.isSome)
      && decide ([e].length + ([] : List Keyword).length + (if ([] : List Keyword).isEmpty then 0 else 1) < 30)) = true := by rfl)
    (hline : (apos.endLine == cpos.line) = true := by rfl) : PE X (.Call (.Attribute (.Name x p) "extend" apos) [e] [] cpos) (tM (gOf X) W (mExtT k me)) :=
  PE.imp (pe_bm PySem.F.plainAttrs_list PySem.F.slot_list_extend PySem.F.type_list_extend mt_extendT (pe_var hN hv hd hcd) (pa_cons he pa_nil hst) hbase hfew hline hst) fun σ H Q h => by
    obtain ⟨B, Fr, S, ρ, o, q⟩ := h
    unfold mExtT at q
    split at q
    · rename_i d0 q1
      obtain ⟨a, ho, ea, eo, ro⟩ := o.held q1
      obtain ⟨vs, rfl, rr⟩ := ro
      refine ⟨.ref a, ea, .inl ⟨rfl, vs, SqL.of eo⟩, opnd o q fun d ρ1 y S1 H1 e1 o1 r1 c1 => ?_⟩
      split at c1
      · rename_i _ es ds q2
        obtain ⟨a2, ho2, ea2, eo2, ro2⟩ := o1.held q2
        rw [ea] at ea2
        cases ea2
        obtain ⟨vs2, rfl, rr2⟩ := ro2
        simp only [Rep] at r1
        obtain ⟨b, zs, rfl, hs, rz⟩ := r1
        split at c1
        · rename_i hl
          have hz : sizeLine = 16777216 := sizeLine_eq
          exact ⟨a, b, vs2, zs, rfl, rfl, eo2, SqT.of (o1.tupAt hs), by rw [rr2.length, rz.length]; omega, c1 _ S1 _ Ext.refl ((o1.put (e := .lst (ds ++ es)) q2 ea ⟨_, rfl, rr2.append rz⟩).push (by simp only [Rep]))⟩
        · exact c1.elim
      · exact c1.elim
    · exact q.elim
end
theorem wr_extT {k : Nat} {me : ME -> MR} {ρ : ME} {Q : Slot -> ME -> Prop} {ds : List D} (hk : heldAt ρ k = some (.lst ds)) (h : WD (me ρ) fun e ρ1 => ∃ es ds1, e = .tup es /\ heldAt ρ1 k = some (.lst ds1) /\ ds1.length + es.length < 1000000 /\ Q (.v .non) (putAt ρ1 k (.lst (ds1 ++ es)))) : WR (mExtT k me ρ) Q := by
 unfold mExtT
 rw [hk]
 refine frz_ok ?_
 obtain ⟨s, ρ1, e, d, e2, es, ds1, rfl, e3, hl, q⟩ := h
 exact ⟨s, ρ1, e, _, e2, _, _, by rw [e3]; dsimp only; rw [if_pos hl], q⟩
def swp2 (k : Nat) (mi mj : ME -> MR) : List D -> ME -> MS
 | [d, e], ρ1 => (match heldAt ρ1 k with
  | none => .stuck
  | some _ => frzS (mi ρ1) fun i ρ2 => match (heldAt ρ2 k).bind fun x => setD x i d with
   | some d' => (match heldAt (putAt ρ2 k d') k with
    | none => .stuck
    | some _ => frzS (mj (putAt ρ2 k d')) fun j ρ3 => match (heldAt ρ3 k).bind fun x => setD x j e with
     | some d'' => .ok (.nx (putAt ρ3 k d''))
     | none => .stuck)
   | none => .stuck)
 | _, _ => .stuck
def mSub2 (k : Nat) (mi mj : ME -> MR) (ms : ME -> ML) : ME -> MS := fun ρ => bnd (ms ρ) fun p => swp2 k mi mj p.1 p.2
section
variable {X : Cx} {W : WX} {pos tp1 tp2 op1 op2 pt pv : Pos} {i j a b : Expr} {mi mj : ME -> MR} {ms : ME -> ML} {x : Str} {kt kv : Nat}
theorem st_sub2 (hc : X.calm = true) (k : Nat) (hi : PE X i (tM (gOf X) W mi)) (hj : PE X j (tM (gOf X) W mj)) (he : PA X [a, b] (tMs (gOf X) W ms)) (hl : LenIs ms 2) (hN : X.N[k]? = some x := by rfl) (hv : Vis X.env.scope x := by first | exact Or.inl rfl | exact Or.inr (Or.inl rfl) | exact Or.inr (Or.inr rfl)) (hd : (x == ("__debug__" : Str)) = false := by decide) (hcd : (x == ("__classdict__" : Str)) = false := by decide)
    (ha : ∀ v, assign (.Subscript (.Name x op1) i tp1) X.env v = (do
      let ov <- holding [v] (eval (.Name x op1) X.env)
      let iv <- holding [v, ov] (eval i X.env)
      standAt tp1
      holding [v, ov, iv] (setItem ov iv v)
      release [v, ov, iv] []) := by intro _; rfl)
    (hb : ∀ v, assign (.Subscript (.Name x op2) j tp2) X.env v = (do
      let ov <- holding [v] (eval (.Name x op2) X.env)
      let iv <- holding [v, ov] (eval j X.env)
      standAt tp2
      holding [v, ov, iv] (setItem ov iv v)
      release [v, ov, iv] []) := by intro _; rfl)
    (hs : swapsWithSole [.Tuple [.Subscript (.Name x op1) i tp1, .Subscript (.Name x op2) j tp2] kt pt] (.Tuple [a, b] kv pv) pos.line X.env = pure false := by rfl) (hw : swappedStores [.Tuple [.Subscript (.Name x op1) i tp1, .Subscript (.Name x op2) j tp2] kt pt] (.Tuple [a, b] kv pv) X.env = pure none := by rfl)
    (h1 : (assignEach [.Tuple [.Subscript (.Name x op1) i tp1, .Subscript (.Name x op2) j tp2] kt pt] X.env).map (·.2) = [assign (.Tuple [.Subscript (.Name x op1) i tp1, .Subscript (.Name x op2) j tp2] kt pt) X.env] := by rfl) :
    PS X (.Assign [.Tuple [.Subscript (.Name x op1) i tp1, .Subscript (.Name x op2) j tp2] kt pt] (.Tuple [a, b] kv pv) pos) (sM (gOf X) W (mSub2 k mi mj ms)) :=
  PS.imp (ps_asg (pe_tup he) (pg_tup hc (pgs_cons (pg_sub (pe_var hN hv hd hcd) hi set_list ha) (pgs_cons (pg_sub (pe_var hN hv hd hcd) hj set_list hb) pgs_nil))) hs hw h1) fun En σ H h => by
    obtain ⟨B, Fr, S, ρ, o, c⟩ := h
    have hz : sizeLine = 16777216 := sizeLine_eq
    have c : ContS (gOf X) W B Fr S En (bnd (ms ρ) fun p => swp2 k mi mj p.1 p.2) := c
    refine ⟨B, Fr, S, ρ, o, ?_⟩
    cases e : ms ρ with
    | ok p =>
      obtain ⟨ds, ρ1⟩ := p
      intro xs S1 H1 x1 o1 r
      have lp := hl _ _ _ e
      rw [e] at c
      refine ⟨by rw [r.length, lp]; omega, fun tp htp => ?_⟩
      match ds, lp, r, c with
      | [d, e'], _, r, c =>
        obtain ⟨v1, v2, rfl, hv1, hv2⟩ := reps2 r
        have c : ContS (gOf X) W B Fr S En (swp2 k mi mj [d, e'] ρ1) := c
        replace c := c.mono x1
        simp only [swp2] at c
        have o2 := o1.grow (Same.upd (o := .tup [v1, v2]) htp)
        cases q1 : heldAt ρ1 k with
        | none => rw [q1] at c; exact c.elim
        | some d0 =>
          rw [q1] at c
          dsimp only at c
          obtain ⟨a', ho, ea, eo, ro⟩ := o2.held q1
          refine ⟨tp, [v1, v2], rfl, SqT.of upd_same, rfl, v1, [v2], rfl, .ref a', ea, opndS o2 c fun di ρ2 y S2 H2 e2 o3 r2 c2 => ?_⟩
          cases q2 : heldAt ρ2 k with
          | none => rw [q2] at c2; exact c2.elim
          | some d2 =>
            rw [q2] at c2
            obtain ⟨a2, ho2, ea2, eo2, ro2⟩ := o3.held q2
            rw [ea] at ea2
            cases ea2
            simp only [Option.bind_some] at c2
            cases q3 : setD d2 di d with
            | none => rw [q3] at c2; exact c2.elim
            | some d' =>
              rw [q3] at c2
              refine setD_walk o3 q2 ea eo2 ro2 r2 (hv1.mono e2.same) q3 fun H' o' => ?_
              dsimp only at c2
              cases q4 : heldAt (putAt ρ2 k d') k with
              | none => rw [q4] at c2; exact c2.elim
              | some d3 =>
                rw [q4] at c2
                dsimp only at c2
                refine ⟨v2, [], rfl, .ref a', ea, opndS o' c2 fun dj ρ3 y3 S3 H3 e3 o5 r3 c4 => ?_⟩
                cases q5 : heldAt ρ3 k with
                | none => rw [q5] at c4; exact c4.elim
                | some d5 =>
                  rw [q5] at c4
                  obtain ⟨a5, ho5, ea5, eo5, ro5⟩ := o5.held q5
                  rw [ea] at ea5
                  cases ea5
                  simp only [Option.bind_some] at c4
                  cases q6 : setD d5 dj e' with
                  | none => rw [q6] at c4; exact c4.elim
                  | some d6 =>
                    rw [q6] at c4
                    exact setD_walk o5 q5 ea eo5 ro5 r3 ((hv2.mono e2.same).mono e3.same) q6 fun H'' o'' => ⟨rfl, c4 σ S3 H'' Ext.refl o''⟩
    | err cc ρ1 => rw [e] at c; exact fun S' H' y1 y2 => c σ S' H' y1 y2
    | stuck => rw [e] at c; exact c
end
theorem ws_sub2 {ρ : ME} {QS : Fl -> Prop} {k : Nat} {mi mj : ME -> MR} {ms : ME -> ML} (h : WL (ms ρ) fun ds ρ1 => ∃ d e x0, ds = [d, e] /\ heldAt ρ1 k = some x0 /\ WD (mi ρ1) fun i ρ2 => ∃ x1 d', heldAt ρ2 k = some x1 /\ setD x1 i d = some d' /\ ∃ x2, heldAt (putAt ρ2 k d') k = some x2 /\ WD (mj (putAt ρ2 k d')) fun j ρ3 => ∃ x3 d'', heldAt ρ3 k = some x3 /\ setD x3 j e = some d'' /\ QS (.nx (putAt ρ3 k d''))) : WS (mSub2 k mi mj ms ρ) QS := by
 obtain ⟨ds, ρ1, e1, d, e, x0, rfl, e2, s2, ρ2, e3, i, e4, x1, d', e5, e6, x2, e7, s3, ρ3, e8, j, e9, x3, d'', e10, e11, q⟩ := h
 refine ⟨_, ?_, q⟩
 unfold mSub2
 rw [e1]
 simp only [bnd, swp2]
 rw [e2]
 dsimp only
 rw [e3]
 cases s2 <;> cases e4 <;> (simp only [frzS]; rw [e5]; simp only [Option.bind_some]; rw [e6]; dsimp only; rw [e7]; dsimp only; rw [e8]; cases s3 <;> cases e9 <;> (simp only [frzS]; rw [e10]; simp only [Option.bind_some]; rw [e11]))
section
variable {prog : Program} {w : World} {A : Around} {E : Value -> Shared -> Prop} {s : Shared}
theorem star2_list {l : Addr} {items : Array Value} {x : Value} {rest : List Value} {Q : List Value -> Shared -> Prop} (hh : A.handled = none) (hl : s.heap.IsList l items) (hi : items.toList = x :: rest) (hz : items.size ≤ 16384)
    (h : ∀ (h' : Heap) (tk : Nat), (∀ b o, s.heap.get? b = some o -> h'.get? b = some o) -> Q [x, .ref h'.objs.size] { s with heap := h'.push { cls := .type "list", data := .seq rest.toArray }, toks := tk }) : wpAny (model prog w) A (unpackItems (.ref l) 2 (some 1)) Q E s := by
  have hsz : items.size = rest.length + 1 := by rw [<- Array.length_toList, hi]; rfl
  have hlt : l ≠ s.heap.objs.size := by obtain ⟨o, ho, _⟩ := hl; exact Nat.ne_of_lt (Heap.lt_size ho)
  unfold unpackItems
  refine wpAny_bind ?_
  unfold notIterableAtAll
  refine wpAny_bind (wpAny_specialOf hl.typeIs slot_list_iter.lookup ?_)
  refine wpAny_pure ?_
  simp only [Bool.false_eq_true, if_false]
  refine wpAny_bind (wpAny_holding (wpAny_pyIter_list hl ?_))
  refine wpAny_bind (wpAny_holding (PySem.W.kun_draw hlt 1 0 _ _ ⟨_, Heap.get?_push_size _ rfl, rfl, rfl⟩ (hl.push _) (by omega) fun h₁ hit₁ hs₁ => ?_))
  have hl₁ : h₁.IsList l items := (hl.push _).extBut hs₁.extBut hlt
  obtain ⟨oi, hoi, _⟩ := id hit₁
  obtain ⟨ol, hol, _⟩ := id hl₁
  rw [List.drop_zero, hi]
  show wpAny _ _ (if (1 : Nat) < 1 then _ else _) _ _ _
  rw [if_neg (by omega)]
  refine wpAny_bind (wpAny_holding (PySem.W.kun_collect (s := { s with heap := h₁ }) (T := "list_iterator") (.inr (.inr (.inl rfl))) (Walks.list (A := A.in1) hh s.heap.objs.size l hlt items) (fun j u st => st.1.typeIs) (k := 1) (by omega) ⟨hit₁, hl₁⟩ (Heap.lt_size hoi) (Heap.lt_size hol) (fun h₂ tk hk => ?_) (by rw [sizeLine_eq]; omega)))
  rw [hi]
  show wpAny _ _ (if rest.length < 0 then _ else _) _ _ _
  rw [if_neg (by omega)]
  have e4 : ((x :: rest).drop 1).take (((x :: rest).drop 1).length - (2 - 1 - 1)) = rest := by simp
  have e5 : ((x :: rest).drop 1).drop (((x :: rest).drop 1).length - (2 - 1 - 1)) = [] := by simp
  rw [e4, e5]
  refine wpAny_bind (wpAny_newList (wpAny_pure ?_) (by rw [sizeLine_eq]; omega))
  exact h h₂ tk fun b o e => hk b o (Nat.ne_of_lt (Heap.lt_size e)) (hs₁.extBut b o (Nat.ne_of_lt (Heap.lt_size e)) (Heap.get?_push_of_some _ e))
end
def gStar2L (K : PySem.W.Frag) (i j : Nat) : TG := fun v σ H Q => ∃ a x0 xs, v = .ref a /\ SqL K H a (x0 :: xs) /\ xs.length < 16000 /\ ∀ q, H q = none -> Q ((σ.set i (some x0)).set j (some (.ref q))) (upd H q (.lst xs))
theorem pg_star2L {X : Cx} {i j : Nat} {x y : Str} {px py ps pt : Pos} {k : Nat} (hc : X.calm = true) (hN : X.N.Nodup) (hi : X.N[i]? = some x) (hj : X.N[j]? = some y) (hx : Loc X.env.scope x) (hy : Loc X.env.scope y)
    (hfx : X.fn x = true \/ X.env.scope.names.lookup x = some .local := by first | exact .inl rfl | exact .inr rfl | assumption) (hfy : X.fn y = true \/ X.env.scope.names.lookup y = some .local := by first | exact .inl rfl | exact .inr rfl | assumption)
    (hlen : (assignEach [.Name x px, .Starred (.Name y py) ps] X.env).length = 2 := by rfl) (hst : (assignEach [.Name x px, .Starred (.Name y py) ps] X.env).findIdx? (·.1) = some 1 := by rfl)
    (hm : (assignEach [.Name x px, .Starred (.Name y py) ps] X.env).map (·.2) = [assign (.Name x px) X.env, assign (.Name y py) X.env] := by rfl) : PG X (.Tuple [.Name x px, .Starred (.Name y py) ps] k pt) (gStar2L X.K i j) := by
  refine ⟨fun pins s σ H v u Q I r hw => ?_⟩
  obtain ⟨a, x0, xs, rfl, hq, hl, hw⟩ := hw
  cases r
  obtain ⟨its, rv, ht, hz⟩ := I.list hq
  rw [PyProof.Rows.assign_Tuple]
  refine wpAny_bind (wpAny_standAt ?_)
  unfold unpack
  rw [hlen, hst, hm]
  cases rv with
  | @cons _ u0 _ us r0 rr =>
    have hus := rr.length
    refine wpAny_bind (wpAny_holding (star2_list (I.ok.hd hc) ht.isList (x := u0) (rest := us) (by simp) (by simp; omega) fun h' tk hk => ?_))
    have I1 : Inv X pins σ (upd H h'.objs.size (.lst xs)) { s with heap := h'.push { cls := .type "list", data := .seq us.toArray }, toks := tk } := by
      have I0 : Inv X pins σ H { s with heap := h', toks := tk } := I.kept hk
      refine I0.laid (t' := tk) (fun b o e => Heap.get?_push_of_some _ e) (Nat.le_refl _) ?_
      exact ⟨by rw [sizeLine_eq]; omega, us, 0, rr, Heap.get?_push_size _ rfl⟩
    have q := hw h'.objs.size ((I.kept (t' := tk) hk).hok.fresh (Nat.le_refl _))
    refine assignInOrder_cons (wpAny_assign_Name (store_ok I1 hN hi hx r0 (fun s2 I2 => ?_) hfx))
    refine assignInOrder_cons (wpAny_assign_Name (store_ok (v := .ref h'.objs.size) I2 hN hj hy rfl (fun s3 I3 => assignInOrder_nil ⟨_, _, I3, q⟩) hfy))
def mAsgSL (i j : Nat) (m : ME -> MR) : ME -> MS := fun ρ => frzS (m ρ) fun d ρ1 => match d with
 | .lst (d0 :: ds) => if ds.length < 16000 then .ok (.nx ((ρ1.set i (.v d0)).set j (.own (.lst ds)))) else .stuck
 | _ => .stuck
theorem st_asgSL {X : Cx} {W : WX} {i j : Nat} {x y : Str} {px py ps pt pos : Pos} {k : Nat} {e : Expr} {m : ME -> MR} (hc : X.calm = true) (hN : X.N.Nodup) (hi : X.N[i]? = some x) (hj : X.N[j]? = some y) (hx : Loc X.env.scope x) (hy : Loc X.env.scope y) (he : PE X e (tM (gOf X) W m))
    (hs : swapsWithSole [.Tuple [.Name x px, .Starred (.Name y py) ps] k pt] e pos.line X.env = pure false := by rfl) (hw : swappedStores [.Tuple [.Name x px, .Starred (.Name y py) ps] k pt] e X.env = pure none := by rfl)
    (hfx : X.fn x = true \/ X.env.scope.names.lookup x = some .local := by first | exact .inl rfl | exact .inr rfl | assumption) (hfy : X.fn y = true \/ X.env.scope.names.lookup y = some .local := by first | exact .inl rfl | exact .inr rfl | assumption)
    (hlen : (assignEach [.Name x px, .Starred (.Name y py) ps] X.env).length = 2 := by rfl) (hst : (assignEach [.Name x px, .Starred (.Name y py) ps] X.env).findIdx? (·.1) = some 1 := by rfl)
    (hm : (assignEach [.Name x px, .Starred (.Name y py) ps] X.env).map (·.2) = [assign (.Name x px) X.env, assign (.Name y py) X.env] := by rfl)
    (h1 : (assignEach [.Tuple [.Name x px, .Starred (.Name y py) ps] k pt] X.env).map (·.2) = [assign (.Tuple [.Name x px, .Starred (.Name y py) ps] k pt) X.env] := by rfl) :
    PS X (.Assign [.Tuple [.Name x px, .Starred (.Name y py) ps] k pt] e pos) (sM (gOf X) W (mAsgSL i j m)) :=
  PS.imp (ps_asg he (pg_star2L hc hN hi hj hx hy hfx hfy hlen hst hm) hs hw h1) fun En σ H h => by
    obtain ⟨B, Fr, S, ρ, o, q⟩ := h
    refine opndS o q fun d ρ1 x S1 H1 e1 o1 r1 c1 => ?_
    split at c1
    · rename_i d0 ds
      split at c1
      · rename_i hlt
        obtain ⟨a, vs, rfl, ha, ra⟩ := o1.at r1
        simp only [Reps] at ra
        obtain ⟨x0, xs, rfl, r0, rr⟩ := ra
        refine ⟨a, x0, xs, rfl, ha, by rw [rr.length]; exact hlt, fun q hq => c1 _ S1 _ Ext.refl ?_⟩
        exact (((o1.push r0).store fun _ z => nomatch z).newOwn (d := .lst ds) hq ⟨_, rfl, rr⟩).store fun _ z => nomatch z
      · exact c1.elim
    · exact c1.elim
theorem ws_asgSL {i j : Nat} {m : ME -> MR} {ρ : ME} {QS : Fl -> Prop} (h : WD (m ρ) fun d ρ1 => ∃ d0 ds, d = .lst (d0 :: ds) /\ ds.length < 16000 /\ QS (.nx ((ρ1.set i (.v d0)).set j (.own (.lst ds))))) : WS (mAsgSL i j m ρ) QS := by
 obtain ⟨s, ρ1, e, d, e2, d0, ds, rfl, l, q⟩ := h
 refine ⟨_, ?_, q⟩
 unfold mAsgSL
 rw [e]
 cases s <;> cases e2 <;> (simp only [frzS]; rw [if_pos l])
theorem wr_slS {i : Nat} {z : Str} {ρ : ME} {Q : Slot -> ME -> Prop} {ml mh : ME -> Res (Option Int × ME)} (hd : slotD ρ i = some (.str z)) (hz : z.length ≤ 16777216) (h : WO (ml ρ) fun lo ρ2 => WO (mh ρ2) fun hi ρ3 => slotD ρ3 i = some (.str z) /\ Q (.v (.str (cutS z lo hi))) ρ3) : WR (mSlV i ml mh ρ) Q := by
 obtain ⟨lo, ρ2, e3, hi, ρ3, e4, e5, q⟩ := h
 refine ⟨_, ρ3, ?_, q⟩
 have hz2 : z.length ≤ sizeLine := by rw [sizeLine_eq]; exact hz
 unfold mSlV
 rw [hd]
 dsimp only
 rw [e3]
 simp only [bnd, e4, e5]
 rw [if_pos hz2]
end Mp
namespace Mp
open PySem PySem.Spec PyProof.Rows L2
def keysN : List DictEntry -> List Key -> Bool
 | [], [] => true
 | e :: es, k :: ks => keyIs k e.key && keysN es ks
 | _, _ => false
def ksD : D -> List Key
 | .kdc ks _ => ks
 | _ => []
def dsD : D -> List D
 | .kdc _ ds => ds
 | _ => []
def ConN (K : PySem.W.Frag) (w : World) (x : Str) (d : D) : Prop := d = .kdc (ksD d) (dsD d) /\ ∃ u es, PySem.W.nsIn K mainGlobals x = some (some u) /\ dicAt? K u = some es /\ keysN es (ksD d) = true /\ es.map (·.hash) = (ksD d).map (keyH w) /\ (ksD d).Nodup /\ repsB K (dsD d) (es.map (·.val)) = true
theorem keysN_ok {P : Program} {w : World} : ∀ {es : List DictEntry} {ks : List Key}, keysN es ks = true -> es.map (·.hash) = ks.map (keyH w) -> (∀ e ∈ es, ∃ k, (mixKind P w).is k e.key = true /\ e.hash = (mixKind P w).hash k) /\ es.length = ks.length /\ ∀ us : List Value, us = es.map (·.val) -> Pairs (mixKind P w) es (ks.zip us)
 | [], [], _, _ => ⟨fun _ h => (by cases h), rfl, fun us h => by subst h; exact .nil⟩
 | e :: es, k :: ks, h, hh => by
  simp only [keysN, Bool.and_eq_true] at h
  simp only [List.map_cons, List.cons.injEq] at hh
  obtain ⟨h1, h3⟩ := h
  obtain ⟨g1, g2, g3⟩ := keysN_ok (P := P) (w := w) h3 hh.2
  refine ⟨fun e' he => ?_, by simp [g2], fun us hu => ?_⟩
  ·rcases List.mem_cons.mp he with z | z
   ·subst z; exact ⟨k, h1, hh.1⟩
   ·exact g1 e' z
  ·subst hu
   exact .cons h1 rfl (g3 _ rfl)
 | [], _ :: _, h, _ => by cases h
 | _ :: _, [], h, _ => by cases h
theorem conN_ok {P : Program} {w : World} {K : PySem.W.Frag} {h : Heap} {mg : Str -> Option Value} {x : Str} {d : D} (X : K.In h) (Gm : h.Ns mainGlobals mg) (C : ConN K w x d) : KC ⟨P, w, K, mg, none⟩ x d := by
 obtain ⟨ed, u, es, hx, e, h1, hh, h2, h3⟩ := C
 rw [ed]
 generalize ksD d = ks at *
 generalize dsD d = ds at *
 obtain ⟨vs, hv, hr⟩ := repsB_ok (G := ⟨P, w, K, mg, none⟩) h3
 obtain ⟨g1, g2, g3⟩ := keysN_ok (P := P) (w := w) h1 hh
 have hlv : vs.length = es.length := by rw [hv.length, List.length_map]
 cases u with
 | ref a =>
  refine ⟨.ref a, .ref a, PySem.W.mg_of X Gm hx, rfl, fun S => ?_⟩
  simp only [Rep]
  refine ⟨a, vs, rfl, ?_, by omega, hr S⟩
  simp only [dicAt?] at e
  cases l : K.lookup a with
  | none => rw [l] at e; cases e
  | some o =>
   rw [l] at e
   obtain ⟨oc, od, dt, sl⟩ := o
   cases dt with
   | dict es' ep =>
    dsimp only at e
    split at e
    ·rename_i c
     cases e
     simp only [Bool.and_eq_true, decide_eq_true_eq, beq_iff_eq, Bool.not_eq_true'] at c
     obtain ⟨⟨⟨⟨c1, c2⟩, c3⟩, c4⟩, c5⟩ := c
     refine ⟨c4, by rw [List.length_zip]; simp at hlv; have := sizeLine_eq; omega, ⟨oc, od, .dict es' ep, sl⟩, es', ep, ks.zip (es'.toList.map (·.val)), l, ⟨c1, by simpa using c2, by simpa using c3⟩, rfl, fun e' he => g1 e' (by simpa using he), g3 _ rfl, ?_, kv_zip hv⟩
     rw [List.map_fst_zip]
     ·exact h2
     ·rw [List.length_map]; omega
    ·cases e
   | _ => cases e
 | _ => simp [dicAt?] at e
theorem conN_of {K : PySem.W.Frag} {w : World} {x : Str} {d : D} (h1 : PySem.W.nsIn K mainGlobals x = some (some (uOf K x))) (h2 : dicAt? K (uOf K x) = some (esOf K x)) (h3 : (ksD d).Nodup) (h4 : (keysN (esOf K x) (ksD d) && repsB K (dsD d) ((esOf K x).map (·.val))) = true) (h5 : (esOf K x).map (·.hash) = (ksD d).map (keyH w)) (h0 : d = .kdc (ksD d) (dsD d) := by rfl) : ConN K w x d := by
 rw [Bool.and_eq_true] at h4
 exact ⟨h0, uOf K x, esOf K x, h1, h2, h4.1, h5, h3, h4.2⟩
end Mp
namespace K67
open PySem PySem.Spec PyProof.Rows L2 Mp
def top (i : Nat) : Stmt := PySem.Challenge.pw_softcage_k67_deeds_written_and_read.main.body.getD i (.Pass ⟨0, 0, 0, 0⟩)
abbrev s_law_box : Stmt := top 12
abbrev s_law_draw : Stmt := top 13
abbrev s_law_any_number : Stmt := top 14
abbrev s_law_any_deed : Stmt := top 15
abbrev s_row_text : Stmt := top 6
abbrev s_deed_text : Stmt := top 9
abbrev s_law_whole : Stmt := top 16
abbrev s_law_same : Stmt := top 17
abbrev s_law_deed_row : Stmt := top 18
abbrev s_number_in : Stmt := top 7
abbrev s_numbers_in : Stmt := top 8
abbrev s_BadText___init__ : Stmt := inClass (top 2) 0
abbrev s_read_deed : Stmt := top 10
abbrev s_law_spoilt_row : Stmt := top 19
abbrev s_law_number : Stmt := top 20
abbrev s_law_read_deed : Stmt := top 21
abbrev s_law_told : Stmt := top 22
abbrev s_law : Stmt := top 23
def c_DEED_NUMBERS : D := (.kdc [.inr "move", .inr "sharpen", .inr "smoothen", .inr "fasten", .inr "loosen", .inr "split", .inr "flip", .inr "wish"] [(.int 4), (.int 2), (.int 2), (.int 1), (.int 1), (.int 4), (.int 2), (.int 2)])
def c_MOST_FIGURES : D := (.int 7)
def etab : ETab := [("BadText", ["BadText", "SoftError", "__init__"])]
def dd_law_box : He.DefD := ⟨("_law_box", none), "_law_box", "_law_box", defArgs s_law_box, defBody s_law_box, defScope s_law_box, [], []⟩
def dd_law_draw : He.DefD := ⟨("_law_draw", none), "_law_draw", "_law_draw", defArgs s_law_draw, defBody s_law_draw, defScope s_law_draw, [], []⟩
def dd_law_any_number : He.DefD := ⟨("_law_any_number", none), "_law_any_number", "_law_any_number", defArgs s_law_any_number, defBody s_law_any_number, defScope s_law_any_number, [], []⟩
def dd_law_any_deed : He.DefD := ⟨("_law_any_deed", none), "_law_any_deed", "_law_any_deed", defArgs s_law_any_deed, defBody s_law_any_deed, defScope s_law_any_deed, [], []⟩
def dd_row_text : He.DefD := ⟨("row_text", none), "row_text", "row_text", defArgs s_row_text, defBody s_row_text, defScope s_row_text, [], []⟩
def dd_deed_text : He.DefD := ⟨("deed_text", none), "deed_text", "deed_text", defArgs s_deed_text, defBody s_deed_text, defScope s_deed_text, [], []⟩
def dd_law_whole : He.DefD := ⟨("_law_whole", none), "_law_whole", "_law_whole", defArgs s_law_whole, defBody s_law_whole, defScope s_law_whole, [], []⟩
def dd_law_same : He.DefD := ⟨("_law_same", none), "_law_same", "_law_same", defArgs s_law_same, defBody s_law_same, defScope s_law_same, [], []⟩
def dd_law_deed_row : He.DefD := ⟨("_law_deed_row", none), "_law_deed_row", "_law_deed_row", defArgs s_law_deed_row, defBody s_law_deed_row, defScope s_law_deed_row, [], []⟩
def dd_number_in : He.DefD := ⟨("number_in", none), "number_in", "number_in", defArgs s_number_in, defBody s_number_in, defScope s_number_in, [], []⟩
def dd_numbers_in : He.DefD := ⟨("numbers_in", none), "numbers_in", "numbers_in", defArgs s_numbers_in, defBody s_numbers_in, defScope s_numbers_in, [], []⟩
def dd_BadText___init__ : He.DefD := ⟨("BadText", some "__init__"), "__init__", "BadText.__init__", defArgs s_BadText___init__, defBody s_BadText___init__, defScope s_BadText___init__, [], []⟩
def dd_read_deed : He.DefD := ⟨("read_deed", none), "read_deed", "read_deed", defArgs s_read_deed, defBody s_read_deed, defScope s_read_deed, [], []⟩
def dd_law_spoilt_row : He.DefD := ⟨("_law_spoilt_row", none), "_law_spoilt_row", "_law_spoilt_row", defArgs s_law_spoilt_row, defBody s_law_spoilt_row, defScope s_law_spoilt_row, [], []⟩
def dd_law_number : He.DefD := ⟨("_law_number", none), "_law_number", "_law_number", defArgs s_law_number, defBody s_law_number, defScope s_law_number, [], []⟩
def dd_law_read_deed : He.DefD := ⟨("_law_read_deed", none), "_law_read_deed", "_law_read_deed", defArgs s_law_read_deed, defBody s_law_read_deed, defScope s_law_read_deed, [], []⟩
def dd_law_told : He.DefD := ⟨("_law_told", none), "_law_told", "_law_told", defArgs s_law_told, defBody s_law_told, defScope s_law_told, [], []⟩
def dd_law : He.DefD := ⟨("law", none), "law", "law", defArgs s_law, defBody s_law, defScope s_law, [], []⟩
def fn : List He.DefD := [dd_law_box, dd_law_draw, dd_law_any_number, dd_law_any_deed, dd_row_text, dd_deed_text, dd_law_whole, dd_law_same, dd_law_deed_row, dd_number_in, dd_numbers_in, dd_BadText___init__, dd_read_deed, dd_law_spoilt_row, dd_law_number, dd_law_read_deed, dd_law_told, dd_law]
def fa : List He.Fa := [.glo "_law_box", .glo "_law_draw", .glo "_law_any_number", .glo "_law_any_deed", .glo "row_text", .glo "deed_text", .glo "_law_whole", .glo "_law_same", .glo "_law_deed_row", .glo "number_in", .glo "numbers_in", .glo "BadText", .glo "read_deed", .glo "_law_spoilt_row", .glo "_law_number", .glo "_law_read_deed", .glo "_law_told", .glo "law", .free "all", .free "bool", .free "int", .free "isinstance", .free "len", .free "list", .free "range", .free "str", .free "tuple"]
def ex (K : PySem.W.Frag) : Bool := noFB etab "at" K && exIB "BadText" "SoftError" ["at"] K && excB etab K && conK "MOST_FIGURES" c_MOST_FIGURES K
def WP : Prop := ∀ {l : PySem.W.OpenLaw} {q : Program} {loose : List Str} {XP : (Str -> Option Value) -> Heap -> Prop} {YP : World -> Heap -> Prop} {d : DefRec} {K : Params -> PySem.W.Frag} (hn : l.most = some 63) (hdf : d.params.defaults = []) (hd : d.name = ("law" : Str)) (hY : ∀ (w : World) (h : Heap), YP w h -> (K w.params).In h) (hF : ∀ w : World, He.SaysD fa fn (K w.params)) (hX : ∀ w : World, ex (K w.params) = true) (hD_DEED_NUMBERS : ∀ w : World, ConN (K w.params) w "DEED_NUMBERS" c_DEED_NUMBERS), PySem.W.WalkO q loose XP YP l.row.toRowW d [] (fun f vs => PySem.call f vs)
theorem useW (W : WP) {l : PySem.W.OpenLaw} {q : Program} {loose : List Str} {XP : (Str -> Option Value) -> Heap -> Prop} {YP : World -> Heap -> Prop} {d : DefRec} {K : Params -> PySem.W.Frag} (hn : l.most = some 63) (hdf : d.params.defaults = []) (hd : d.name = ("law" : Str)) (hY : ∀ (w : World) (h : Heap), YP w h -> (K w.params).In h) (hF : ∀ w : World, He.SaysD fa fn (K w.params)) (hX : ∀ w : World, ex (K w.params) = true) (hD_DEED_NUMBERS : ∀ w : World, ConN (K w.params) w "DEED_NUMBERS" c_DEED_NUMBERS) : PySem.W.WalkO q loose XP YP l.row.toRowW d [] (fun f vs => PySem.call f vs) := W hn hdf hd hY hF hX hD_DEED_NUMBERS
end K67
section
local macro_rules
 | `(tactic| refine $f:ident $as*) => do
  let m := as.size
  if m < 10 then Lean.Macro.throwUnsupported
  unless as[m-1]!.raw.isOfKind ``Lean.Parser.Term.syntheticHole do Lean.Macro.throwUnsupported
  let w := Lean.mkIdent `W
  let z <- `((by k_fill; exact K67.useW $w (l := PySem.Challenge.rw_softcage_k67_deeds_written_and_read) rfl rfl (by kernel_rfl) (fun w h Y => PySem.W.kIn_of Y) (fun w => by unfold He.SaysD; kernel_rfl) (fun w => by kernel_rfl) (fun w => Mp.conN_of (by kernel_rfl) (by kernel_rfl) (by decide) (by kernel_rfl) (by kernel_rfl))))
  let bs := as.pop.push ⟨z.raw⟩
  `(tactic| refine $f $bs*)
open PySem PySem.W PyProof.Rows in
set_option maxRecDepth 100000 in
set_option maxHeartbeats 0 in
theorem PySem.Challenge.cw_softcage_k67_deeds_written_and_read_head (W : K67.WP) : PySem.Challenge.rw_softcage_k67_deeds_written_and_read.Holds := by
 w_on; o_law; k_head; (case hw => w_witness2)
end
namespace Cg
def pth : List Int -> List (Int × Int)
 | x :: y :: t => (x, y) :: pth (y :: t)
 | _ => []
theorem pth_app (x : Int) : ∀ (p q : List Int), pth (p ++ x :: q) = pth (p ++ [x]) ++ pth (x :: q)
 | [], q => by simp [pth]
 | [a], q => by simp [pth]
 | a :: b :: p, q => by
  have := pth_app x (b :: p) q
  simp only [List.cons_append, pth] at this ⊢
  rw [this]
theorem pth_mem {x y : Int} : ∀ {w : List Int}, (x, y) ∈ pth w -> ∃ p q, w = p ++ x :: y :: q
 | [], h => by simp [pth] at h
 | [a], h => by simp [pth] at h
 | a :: b :: t, h => by
  unfold pth at h
  rcases List.mem_cons.mp h with e | h'
  ·cases e; exact ⟨[], t, rfl⟩
  ·obtain ⟨p, q, e⟩ := pth_mem h'
   exact ⟨a :: p, q, by rw [e]; rfl⟩
theorem pth_in {x y : Int} (p q : List Int) : (x, y) ∈ pth (p ++ x :: y :: q) := by
 rw [pth_app]
 exact List.mem_append_right _ (by simp [pth])
theorem pth_len : ∀ (w : List Int), (pth w).length = w.length - 1
 | [] => rfl
 | [a] => rfl
 | a :: b :: t => by
  have := pth_len (b :: t)
  simp only [pth, List.length_cons] at this ⊢
  omega
theorem pth_fst : ∀ (w : List Int), (pth w).map (·.1) = w.dropLast
 | [] => rfl
 | [a] => rfl
 | a :: b :: t => by
  have := pth_fst (b :: t)
  simp only [pth, List.map_cons, this]
  rfl
theorem pth_snd : ∀ (w : List Int), (pth w).map (·.2) = w.tail
 | [] => rfl
 | [a] => rfl
 | a :: b :: t => by
  have := pth_snd (b :: t)
  simp only [pth, List.map_cons, this]
  rfl
def wlk (r : List Int) (cl : Bool) : List Int := if cl then r ++ r.take 1 else r
def stp (r : List Int) (cl : Bool) : List (Int × Int) := pth (wlk r cl)
structure Row (L : List (Int × Int)) (r : List Int) (cl : Bool) : Prop where
 nd : r.Nodup
 pm : L.Perm (stp r cl)
 lo : 2 ≤ r.length
 hi : r.length ≤ 8
 c3 : cl = true -> 3 ≤ r.length
theorem Row.perm {L L' : List (Int × Int)} {r : List Int} {cl : Bool} (h : Row L r cl) (p : L'.Perm L) : Row L' r cl := ⟨h.nd, p.trans h.pm, h.lo, h.hi, h.c3⟩
theorem stp_rot (x : Int) (r : List Int) (hr : r ≠ []) : (stp (r ++ [x]) true).Perm (stp (x :: r) true) := by
 obtain ⟨y, t, rfl⟩ : ∃ y t, r = y :: t := by cases r with | nil => exact absurd rfl hr | cons y t => exact ⟨y, t, rfl⟩
 unfold stp wlk
 simp only [if_pos, List.cons_append, List.take_succ_cons, List.take_zero, List.append_assoc, List.nil_append]
 have e1 : pth (y :: (t ++ [x, y])) = pth ((y :: t) ++ [x]) ++ pth [x, y] := by
  have := pth_app x (y :: t) [y]
  simpa using this
 rw [e1]
 show (pth (y :: t ++ [x]) ++ [(x, y)]).Perm ((x, y) :: pth (y :: t ++ [x]))
 exact List.perm_append_comm
theorem Row.rot {L : List (Int × Int)} {x : Int} {r : List Int} (h : Row L (x :: r) true) : Row L (r ++ [x]) true := by
 have hr : r ≠ [] := fun e => by have := h.lo; rw [e] at this; simp at this
 refine ⟨?_, h.pm.trans (stp_rot x r hr).symm, ?_, ?_, fun _ => ?_⟩
 ·have := h.nd
  rw [List.nodup_cons] at this
  rw [List.nodup_append]
  exact ⟨this.2, by simp, fun a ha b hb e => this.1 (by rw [<- List.mem_singleton.mp hb, <- e]; exact ha)⟩
 ·have := h.lo; simp at this ⊢; omega
 ·have := h.hi; simp at this ⊢; omega
 ·have := h.c3 rfl; simp at this ⊢; omega
theorem Row.rotTo {L : List (Int × Int)} {x : Int} {q : List Int} : ∀ (p : List Int), Row L (p ++ x :: q) true -> Row L (x :: q ++ p) true
 | [], h => by simpa using h
 | a :: p, h => by
  have h1 := Row.rot (r := p ++ x :: q) h
  have h2 := Row.rotTo (q := q ++ [a]) p (by simpa using h1)
  simpa using h2
theorem stp_cl (x : Int) (q : List Int) : stp (x :: q) true = pth (x :: q ++ [x]) := rfl
theorem stp_op (q : List Int) : stp q false = pth q := rfl
theorem Row.at {L : List (Int × Int)} {r : List Int} {cl : Bool} {x y : Int} (h : Row L r cl) (m : (x, y) ∈ L) : (cl = false /\ ∃ p q, r = p ++ x :: y :: q) \/ (cl = true /\ ∃ q, Row L (x :: y :: q) true /\ (x :: y :: q).length = r.length) := by
 have m' := h.pm.mem_iff.mp m
 cases cl with
 | false =>
  rw [stp_op] at m'
  exact .inl ⟨rfl, pth_mem m'⟩
 | true =>
  refine .inr ⟨rfl, ?_⟩
  have hx : x ∈ r := by
   have : x ∈ (stp r true).map (·.1) := List.mem_map.mpr ⟨_, m', rfl⟩
   unfold stp at this
   rw [pth_fst] at this
   have := List.dropLast_subset _ this
   unfold wlk at this
   simp only [if_pos] at this
   rcases List.mem_append.mp this with z | z
   ·exact z
   ·exact List.mem_of_mem_take z
  obtain ⟨p, q, e⟩ := List.append_of_mem hx
  have len : (x :: q ++ p).length = r.length := by rw [e]; simp; omega
  have h2 : Row L (x :: q ++ p) true := Row.rotTo p (by rw [<- e]; exact h)
  generalize hs : q ++ p = s at *
  rw [List.cons_append, hs] at h2 len
  have m2 := h2.pm.mem_iff.mp m
  rw [stp_cl] at m2
  obtain ⟨a, b, e2⟩ := pth_mem m2
  have nd := h2.nd
  have hlo := h2.c3 rfl
  cases s with
  | nil => simp at hlo
  | cons z s =>
   cases a with
   | nil =>
    simp only [List.cons_append, List.nil_append, List.cons.injEq, true_and] at e2
    obtain ⟨e3, e4⟩ := e2
    subst e3
    exact ⟨s, h2, len⟩
   | cons a0 a =>
    exfalso
    simp only [List.cons_append, List.cons.injEq] at e2
    obtain ⟨_, e3⟩ := e2
    -- x stands in z :: s, or is the last one
    have key : ∀ (u v a : List Int), x ∉ u -> u ++ [x] = a ++ x :: v -> v = [] := by
     intro u
     induction u with
     | nil =>
      intro v a _ e
      cases a with
      | nil => simpa using e.symm
      | cons a0 a => simp at e
     | cons u0 u ih =>
      intro v a hu e
      cases a with
      | nil =>
       simp only [List.cons_append, List.nil_append, List.cons.injEq] at e
       exact absurd (by rw [<- e.1]; exact List.mem_cons_self) hu
      | cons a0 a =>
       simp only [List.cons_append, List.cons.injEq] at e
       exact ih v a (fun z => hu (List.mem_cons_of_mem _ z)) e.2
    rw [List.nodup_cons] at nd
    have := key (z :: s) (y :: b) a nd.1 (by simpa using e3)
    cases this
theorem Row.mem_l {L : List (Int × Int)} {r : List Int} {cl : Bool} {x y : Int} (h : Row L r cl) (m : (x, y) ∈ L) : x ∈ r /\ y ∈ r := by
 have m' := h.pm.mem_iff.mp m
 obtain ⟨p, q, e⟩ := pth_mem m'
 have hx : ∀ z, z ∈ wlk r cl -> z ∈ r := fun z hz => by
  unfold wlk at hz
  split at hz
  ·rcases List.mem_append.mp hz with z | z
   ·exact z
   ·exact List.mem_of_mem_take z
  ·exact hz
 exact ⟨hx x (by rw [e]; simp), hx y (by rw [e]; simp)⟩
theorem Row.ins {L M : List (Int × Int)} {r : List Int} {cl : Bool} {b c d : Int} (h : Row L r cl) (pm : L.Perm ((b, c) :: M)) (hd : d ∉ r) (h7 : r.length ≤ 7) : ∃ r', Row ((b, d) :: (d, c) :: M) r' cl := by
 have m : (b, c) ∈ L := pm.mem_iff.mpr List.mem_cons_self
 rcases h.at m with ⟨rfl, p, q, e⟩ | ⟨rfl, q, h2, len⟩
 ·refine ⟨p ++ b :: d :: c :: q, ?_, ?_, ?_, ?_, fun h => by cases h⟩
  ·subst e
   have nd := h.nd
   simp only [List.nodup_append, List.nodup_cons, List.mem_cons, List.mem_append, not_or] at nd hd ⊢
   obtain ⟨n1, ⟨n2, n3, n4⟩, n5⟩ := nd
   refine ⟨n1, ⟨⟨fun e => hd.2.1 e.symm, n2⟩, ⟨hd.2.2.1, hd.2.2.2⟩, n3, n4⟩, fun x hx y hy => ?_⟩
   rcases hy with hy | hy | hy
   ·exact n5 x hx y (.inl hy)
   ·intro e; exact hd.1 (by rw [<- hy, <- e]; exact hx)
   ·exact n5 x hx y (.inr hy)
  ·have h1 := pm.symm.trans h.pm
   rw [e, stp_op, pth_app] at h1
   have h3 : ((b, c) :: M).Perm ((b, c) :: (pth (p ++ [b]) ++ pth (c :: q))) := h1.trans (by
    show (pth (p ++ [b]) ++ (b, c) :: pth (c :: q)).Perm _
    exact List.perm_middle)
   have h4 := (List.perm_cons _).mp h3
   rw [stp_op, pth_app]
   show ((b, d) :: (d, c) :: M).Perm (pth (p ++ [b]) ++ (b, d) :: (d, c) :: pth (c :: q))
   exact ((h4.cons _).cons _).trans ((List.perm_middle.trans (List.perm_middle.cons _)).symm)
  ·simp; omega
  ·rw [e] at h7; simp at h7 ⊢; omega
 ·have hd2 : d ∉ b :: c :: q := fun z => by
   have e1 := h.pm.symm.trans h2.pm
   -- the same members
   have : d ∈ r := by
    have w : ∀ (r : List Int) , 3 ≤ r.length -> ∀ z, z ∈ r -> z ∈ (stp r true).map (·.1) := by
     intro r hr z hz
     unfold stp
     rw [pth_fst]
     unfold wlk
     simp only [if_pos]
     cases r with
     | nil => cases hz
     | cons a r =>
      show z ∈ (a :: r ++ [a]).dropLast
      rw [List.dropLast_concat]; exact hz
    have w2 : ∀ (r : List Int), ∀ z, z ∈ (stp r true).map (·.1) -> z ∈ r := by
     intro r z hz
     unfold stp at hz
     rw [pth_fst] at hz
     unfold wlk at hz
     simp only [if_pos] at hz
     cases r with
     | nil => simp at hz
     | cons a r =>
      have hz : z ∈ (a :: r ++ [a]).dropLast := hz
      rw [List.dropLast_concat] at hz; exact hz
    exact w2 r d ((e1.map (·.1)).mem_iff.mpr (w _ (h2.c3 rfl) d z))
   exact hd this
  refine ⟨b :: d :: c :: q, ?_, ?_, ?_, ?_, fun _ => ?_⟩
  ·have nd := h2.nd
   simp only [List.nodup_cons, List.mem_cons, not_or] at nd hd2 ⊢
   obtain ⟨⟨n1, n2⟩, n3, n4⟩ := nd
   exact ⟨⟨fun e => hd2.1 e.symm, n1, n2⟩, ⟨hd2.2.1, hd2.2.2⟩, n3, n4⟩
  ·have h1 := pm.symm.trans h2.pm
   have h4 := (List.perm_cons _).mp (show ((b, c) :: M).Perm ((b, c) :: pth (c :: q ++ [b])) from h1)
   show ((b, d) :: (d, c) :: M).Perm ((b, d) :: (d, c) :: pth (c :: q ++ [b]))
   exact (h4.cons _).cons _
  ·simp
  ·rw [<- len] at h7; simp at h7 ⊢; omega
  ·simp
theorem pth_map (f : Int -> Int) : ∀ w : List Int, pth (w.map f) = (pth w).map fun p => (f p.1, f p.2)
 | [] => rfl
 | [a] => rfl
 | a :: b :: t => by
  have := pth_map f (b :: t)
  simp only [List.map_cons, pth] at this ⊢
  rw [this]
theorem stp_map (f : Int -> Int) (r : List Int) (cl : Bool) : stp (r.map f) cl = (stp r cl).map fun p => (f p.1, f p.2) := by
 unfold stp
 rw [<- pth_map]
 congr 1
 unfold wlk
 cases cl <;> simp [List.map_append, List.map_take]
theorem Row.map {L : List (Int × Int)} {r : List Int} {cl : Bool} (f : Int -> Int) (h : Row L r cl) (inj : ∀ x ∈ r, ∀ y ∈ r, f x = f y -> x = y) : Row (L.map fun p => (f p.1, f p.2)) (r.map f) cl := by
 refine ⟨?_, ?_, by rw [List.length_map]; exact h.lo, by rw [List.length_map]; exact h.hi, fun e => by rw [List.length_map]; exact h.c3 e⟩
 ·have nd := h.nd
  clear h
  induction r with
  | nil => exact List.nodup_nil
  | cons a r ih =>
   rw [List.nodup_cons] at nd
   rw [List.map_cons, List.nodup_cons]
   refine ⟨fun z => ?_, ih (fun x hx y hy => inj x (List.mem_cons_of_mem _ hx) y (List.mem_cons_of_mem _ hy)) nd.2⟩
   obtain ⟨b, hb, e⟩ := List.mem_map.mp z
   have := inj b (List.mem_cons_of_mem _ hb) a List.mem_cons_self e
   exact nd.1 (by rw [<- this]; exact hb)
 ·rw [stp_map]
  exact h.pm.map _
abbrev Tri := Int × Int × Int
def rt (t : Tri) : Tri := (t.2.1, t.2.2, t.1)
def spk (t : Tri) : List Tri := [t, rt t, rt (rt t)]
def spokes (F : List Tri) : List Tri := F.flatMap spk
def way (t : Tri) : Int × Int := (t.1, t.2.1)
def lnk (v : Int) (S : List Tri) : List (Int × Int) := S.filterMap fun t => if t.1 = v then some t.2 else none
structure VS (S : List Tri) (n : Int) : Prop where
 rng : ∀ t ∈ S, 0 ≤ t.1 /\ t.1 < n
 irr : ∀ t ∈ S, t.1 ≠ t.2.1
 rot : ∀ t ∈ S, rt t ∈ S
 nd : (S.map way).Nodup
 row : ∀ v, 0 ≤ v -> v < n -> ∃ r cl, Row (lnk v S) r cl
theorem lnk_perm {v : Int} {S S' : List Tri} (p : S.Perm S') : (lnk v S).Perm (lnk v S') := p.filterMap _
theorem lnk_app (v : Int) (S T : List Tri) : lnk v (S ++ T) = lnk v S ++ lnk v T := List.filterMap_append
theorem lnk_nil (v : Int) : lnk v [] = [] := rfl
theorem lnk_yes {v y z : Int} {T : List Tri} : lnk v ((v, y, z) :: T) = (y, z) :: lnk v T := by unfold lnk; simp
theorem lnk_no {v x y z : Int} {T : List Tri} (h : x ≠ v) : lnk v ((x, y, z) :: T) = lnk v T := by unfold lnk; simp [h]
theorem mem_lnk {v : Int} {p : Int × Int} {S : List Tri} : p ∈ lnk v S ↔ (v, p.1, p.2) ∈ S := by
 unfold lnk
 rw [List.mem_filterMap]
 constructor
 ·rintro ⟨t, ht, e⟩
  split at e
  ·rename_i h
   cases e
   rw [<- h]; exact ht
  ·cases e
 ·intro h
  exact ⟨_, h, by simp⟩
theorem VS.perm {S S' : List Tri} {n : Int} (h : VS S n) (p : S'.Perm S) : VS S' n := by
 refine ⟨fun t ht => h.rng t (p.mem_iff.mp ht), fun t ht => h.irr t (p.mem_iff.mp ht), fun t ht => p.mem_iff.mpr (h.rot t (p.mem_iff.mp ht)), (p.map way).nodup_iff.mpr h.nd, fun v h0 h1 => ?_⟩
 obtain ⟨r, cl, hr⟩ := h.row v h0 h1
 exact ⟨r, cl, hr.perm (lnk_perm p)⟩
theorem spokes_perm {F F' : List Tri} (p : F.Perm F') : (spokes F).Perm (spokes F') := p.flatMap_right _
theorem spokes_cons (t : Tri) (F : List Tri) : spokes (t :: F) = spk t ++ spokes F := by unfold spokes; rw [List.flatMap_cons]
theorem spokes_app (F F' : List Tri) : spokes (F ++ F') = spokes F ++ spokes F' := by unfold spokes; rw [List.flatMap_append]
theorem mem_spk {t s : Tri} : s ∈ spk t ↔ s = t \/ s = rt t \/ s = rt (rt t) := by simp [spk]
theorem rt3 (t : Tri) : rt (rt (rt t)) = t := rfl
theorem spokes_rot {F : List Tri} : ∀ t ∈ spokes F, rt t ∈ spokes F := by
 intro t ht
 unfold spokes at ht ⊢
 rw [List.mem_flatMap] at ht ⊢
 obtain ⟨f, hf, hs⟩ := ht
 refine ⟨f, hf, ?_⟩
 rw [mem_spk] at hs ⊢
 rcases hs with rfl | rfl | rfl
 ·simp
 ·simp
 ·simp [rt3]
theorem mem_spokes {F : List Tri} {t : Tri} (h : t ∈ F) : t ∈ spokes F := List.mem_flatMap.mpr ⟨t, h, by simp [spk]⟩
theorem Row.mem_r {L : List (Int × Int)} {r : List Int} {cl : Bool} {x : Int} (h : Row L r cl) (m : x ∈ r) : ∃ p ∈ L, p.1 = x \/ p.2 = x := by
 obtain ⟨a, b, e⟩ := List.append_of_mem m
 have key : ∃ p ∈ stp r cl, p.1 = x \/ p.2 = x := by
  have w : ∃ t, wlk r cl = r ++ t := by unfold wlk; split; exact ⟨_, rfl⟩; exact ⟨[], by simp⟩
  obtain ⟨t, et⟩ := w
  unfold stp
  rw [et, e]
  cases b with
  | cons y b => exact ⟨(x, y), by have := pth_in (x := x) (y := y) a (b ++ t); simpa using this, .inl rfl⟩
  | nil =>
   have hl := h.lo
   rw [e] at hl
   rcases List.eq_nil_or_concat a with ea | ⟨a', y, ea⟩
   ·rw [ea] at hl; simp at hl
   ·refine ⟨(y, x), ?_, .inr rfl⟩
    rw [ea]
    have := pth_in (x := y) (y := x) a' t
    simpa using this
 obtain ⟨p, hp, q⟩ := key
 exact ⟨p, h.pm.mem_iff.mpr hp, q⟩
theorem VS.snd {S : List Tri} {n : Int} (h : VS S n) {t : Tri} (m : t ∈ S) : 0 ≤ t.2.1 /\ t.2.1 < n := h.rng _ (h.rot t m)
theorem VS.trd {S : List Tri} {n : Int} (h : VS S n) {t : Tri} (m : t ∈ S) : 0 ≤ t.2.2 /\ t.2.2 < n := h.rng _ (h.rot _ (h.rot t m))
theorem VS.split {S T : List Tri} {n a b c : Int} (h : VS S n) (p : S.Perm (spk (a, b, c) ++ T)) (hT : ∀ t ∈ T, rt t ∈ T) (hn : 0 ≤ n)
    (h7 : ∀ v r cl, v = a \/ v = b \/ v = c -> Row (lnk v S) r cl -> r.length ≤ 7) :
    VS (spk (a, b, n) ++ (spk (b, c, n) ++ (spk (c, a, n) ++ T))) (n + 1) := by
  have hS := h.perm p.symm
  have ma : (a, b, c) ∈ spk (a, b, c) ++ T := by simp [spk]
  have ra := hS.rng _ ma
  have rb := hS.snd ma
  have rc := hS.trd ma
  have iab := hS.irr _ ma
  have ibc := hS.irr _ (hS.rot _ ma)
  have ica := hS.irr _ (hS.rot _ (hS.rot _ ma))
  simp only [rt] at ra rb rc iab ibc ica
  have rT : ∀ t ∈ T, t ∈ spk (a, b, c) ++ T := fun t ht => List.mem_append_right _ ht
  have na : n ≠ a := by omega
  have nb : n ≠ b := by omega
  have nc : n ≠ c := by omega
  refine ⟨fun t ht => ?_, fun t ht => ?_, fun t ht => ?_, ?_, fun v h0 h1 => ?_⟩
  · simp only [List.mem_append, spk, List.mem_cons, List.not_mem_nil, or_false, rt] at ht
    rcases ht with (e | e | e) | (e | e | e) | (e | e | e) | e
    all_goals first
      | (subst e; simp only; omega)
      | (have := hS.rng t (rT t e); omega)
  · simp only [List.mem_append, spk, List.mem_cons, List.not_mem_nil, or_false, rt] at ht
    rcases ht with (e | e | e) | (e | e | e) | (e | e | e) | e
    all_goals first
      | (subst e; simp only; omega)
      | exact hS.irr t (rT t e)
  · simp only [List.mem_append, mem_spk] at ht ⊢
    rcases ht with (e | e | e) | (e | e | e) | (e | e | e) | e
    all_goals first
      | (subst e; simp [rt3])
      | (have := hT t e; simp [this])
  · have nd := hS.nd
    have e1 : ((spk (a, b, n) ++ (spk (b, c, n) ++ (spk (c, a, n) ++ T))).map way).Perm ((spk (a, b, c) ++ T).map way ++ [(b, n), (n, a), (c, n), (n, b), (a, n), (n, c)]) := by
      simp only [spk, List.map_append, List.map_cons, List.map_nil, way, rt, List.cons_append, List.nil_append]
      refine List.perm_iff_count.mpr fun x => ?_
      simp only [List.count_cons, List.count_append, List.count_nil]
      omega
    rw [e1.nodup_iff, List.nodup_append]
    refine ⟨nd, ?_, fun x hx y hy e => ?_⟩
    · simp only [List.nodup_cons, List.mem_cons, List.not_mem_nil, or_false, not_or, Prod.mk.injEq, List.nodup_nil, not_false_eq_true, and_true]
      omega
    · subst e
      obtain ⟨t, ht, rfl⟩ := List.mem_map.mp hx
      have q1 := hS.rng t ht
      have q2 := hS.snd ht
      simp only [way, List.mem_cons, List.not_mem_nil, or_false, Prod.mk.injEq] at hy
      omega
  · by_cases hvn : v = n
    · subst hvn
      have eT : lnk v T = [] := by
        refine List.eq_nil_iff_forall_not_mem.mpr fun p hp => ?_
        have := hS.rng _ (rT _ (mem_lnk.mp hp))
        simp only at this
        omega
      refine ⟨[a, b, c], true, ?_, ?_, by simp, by simp, by simp⟩
      · simp only [List.nodup_cons, List.mem_cons, List.not_mem_nil, or_false, not_or, List.nodup_nil, not_false_eq_true, and_true]
        omega
      · simp only [spk, rt, List.cons_append, List.nil_append]
        rw [lnk_no (by omega), lnk_no (by omega), lnk_yes, lnk_no (by omega), lnk_no (by omega), lnk_yes, lnk_no (by omega), lnk_no (by omega), lnk_yes, eT]
        exact List.Perm.refl _
    · obtain ⟨r, cl, hr⟩ := h.row v h0 (by omega)
      have hl := (lnk_perm (v := v) p)
      have hnr : n ∉ r := fun z => by
        obtain ⟨q, hq, e⟩ := hr.mem_r z
        have m := mem_lnk.mp hq
        have s1 := h.snd m
        have s2 := h.trd m
        simp only at s1 s2
        omega
      simp only [spk, rt, List.cons_append, List.nil_append] at hl ⊢
      by_cases va : v = a
      · subst va
        rw [lnk_yes, lnk_no (by omega), lnk_no (by omega)] at hl
        rw [lnk_yes, lnk_no (by omega), lnk_no (by omega), lnk_no (by omega), lnk_no (by omega), lnk_no (by omega), lnk_no (by omega), lnk_yes, lnk_no (by omega)]
        obtain ⟨r', hr'⟩ := hr.ins hl hnr (h7 _ _ _ (.inl rfl) hr)
        exact ⟨r', cl, hr'⟩
      · by_cases vb : v = b
        · subst vb
          rw [lnk_no (by omega), lnk_yes, lnk_no (by omega)] at hl
          rw [lnk_no (by omega), lnk_yes, lnk_no (by omega), lnk_yes, lnk_no (by omega), lnk_no (by omega), lnk_no (by omega), lnk_no (by omega), lnk_no (by omega)]
          obtain ⟨r', hr'⟩ := hr.ins hl hnr (h7 _ _ _ (.inr (.inl rfl)) hr)
          exact ⟨r', cl, hr'.perm (List.Perm.swap _ _ _)⟩
        · by_cases vc : v = c
          · subst vc
            rw [lnk_no (by omega), lnk_no (by omega), lnk_yes] at hl
            rw [lnk_no (by omega), lnk_no (by omega), lnk_no (by omega), lnk_no (by omega), lnk_yes, lnk_no (by omega), lnk_yes, lnk_no (by omega), lnk_no (by omega)]
            obtain ⟨r', hr'⟩ := hr.ins hl hnr (h7 _ _ _ (.inr (.inr rfl)) hr)
            exact ⟨r', cl, hr'.perm (List.Perm.swap _ _ _)⟩
          · rw [lnk_no (by omega), lnk_no (by omega), lnk_no (by omega)] at hl
            rw [lnk_no (by omega), lnk_no (by omega), lnk_no (by omega), lnk_no (by omega), lnk_no (by omega), lnk_no (by omega), lnk_no (by omega), lnk_no (by omega), lnk_no (by omega)]
            exact ⟨r, cl, hr.perm hl.symm⟩
structure Good (F : List Tri) (n : Nat) : Prop where
 vs : VS (spokes F) n
 n3 : 3 ≤ n
 n24 : n ≤ 24
 f1 : 1 ≤ F.length
 f32 : F.length ≤ 32
def nxt (L : List (Int × Int)) (x : Int) : Option Int := (L.find? fun p => p.1 == x).map (·.2)
def go (L : List (Int × Int)) (first : Int) : Nat -> Int -> List Int
 | 0, _ => []
 | n + 1, x => match nxt L x with
  | none => []
  | some y => if y = first then [] else y :: go L first n y
def beginOf (L : List (Int × Int)) : Option Int := match L.find? fun p => !(L.map (·.2)).contains p.1 with
 | some p => some p.1
 | none => L.head?.map (·.1)
def rowOf (L : List (Int × Int)) : List Int := match beginOf L with
 | some x => x :: go L x L.length x
 | none => []
def up (k : Nat) : List Int := (List.range k).map Int.ofNat
end Cg
namespace Cg
open Mp
def keysN (N : NL) : List Int := N.map (·.1)
def MN (N : NL) (v b : Int) : Prop := ∃ n ∈ N, n.1 = v /\ b ∈ n.2
theorem hasN_mem {a : Int} {N : NL} : hasN a N = true ↔ a ∈ keysN N := by
 unfold hasN keysN
 rw [List.any_eq_true, List.mem_map]
 constructor
 ·rintro ⟨n, hn, e⟩; exact ⟨n, hn, by simpa using e⟩
 ·rintro ⟨n, hn, e⟩; exact ⟨n, hn, by simpa using e⟩
structure NOk (N : NL) : Prop where
 kn : (keysN N).Nodup
 ls : ∀ n ∈ N, n.2.Nodup
theorem addA_keys {a v : Int} {N : NL} : v ∈ keysN (addA a N) ↔ v ∈ keysN N \/ v = a := by
 unfold addA
 split
 ·rename_i h
  have := hasN_mem.mp h
  constructor
  ·exact .inl
  ·rintro (h | rfl) <;> assumption
 ·unfold keysN
  rw [List.map_append]
  simp
theorem addA_ok {a : Int} {N : NL} (h : NOk N) : NOk (addA a N) := by
 unfold addA
 split
 ·exact h
 ·rename_i hn
  have hn' : a ∉ keysN N := fun z => hn (hasN_mem.mpr z)
  refine ⟨?_, fun n hm => ?_⟩
  ·unfold keysN
   rw [List.map_append, List.nodup_append]
   refine ⟨h.kn, by simp, fun x hx y hy e => ?_⟩
   have : y = a := by simpa using hy
   exact hn' (by rw [<- this, <- e]; exact hx)
  ·rcases List.mem_append.mp hm with z | z
   ·exact h.ls n z
   ·have : n = (a, []) := by simpa using z
    subst this; exact List.nodup_nil
theorem addA_M {a v b : Int} {N : NL} : MN (addA a N) v b ↔ MN N v b := by
 unfold addA
 split
 ·exact Iff.rfl
 ·unfold MN
  constructor
  ·rintro ⟨n, hm, e, hb⟩
   rcases List.mem_append.mp hm with z | z
   ·exact ⟨n, z, e, hb⟩
   ·have : n = (a, []) := by simpa using z
    subst this; cases hb
  ·rintro ⟨n, hm, e, hb⟩
   exact ⟨n, List.mem_append_left _ hm, e, hb⟩
theorem stepB_keys {a b : Int} {N : NL} : keysN (stepB a N b) = keysN N := by
 unfold stepB
 split
 ·rfl
 ·unfold keysN
  rw [List.map_map]
  refine List.map_congr_left fun x _ => ?_
  show (if x.1 = a then _ else x : Int × List Int).1 = x.1
  split <;> rfl
theorem stepB_ok {a b : Int} {N : NL} (h : NOk N) : NOk (stepB a N b) := by
 refine ⟨by rw [stepB_keys]; exact h.kn, fun n hm => ?_⟩
 unfold stepB at hm
 split at hm
 ·exact h.ls n hm
 ·obtain ⟨x, hx, e⟩ := List.mem_map.mp hm
  have hl := h.ls x hx
  split at e
  ·subst e
   dsimp only
   split
   ·exact hl
   ·rename_i hc
    rw [List.nodup_append]
    refine ⟨hl, by simp, fun y hy z hz e => hc ?_⟩
    have : z = b := by simpa using hz
    rw [<- this, <- e]
    simpa using hy
  ·subst e; exact hl
theorem stepB_M {a b v x : Int} {N : NL} : MN (stepB a N b) v x ↔ MN N v x \/ (v = a /\ x = b /\ b ≠ a /\ a ∈ keysN N) := by
 unfold stepB
 split
 ·rename_i e
  constructor
  ·exact .inl
  ·rintro (h | ⟨_, _, h, _⟩)
   ·exact h
   ·exact absurd e h
 ·rename_i hne
  unfold MN
  constructor
  ·rintro ⟨n, hm, e, hb⟩
   obtain ⟨m, hm1, e2⟩ := List.mem_map.mp hm
   split at e2
   ·rename_i hk
    subst e2
    dsimp only at e hb
    split at hb
    ·exact .inl ⟨m, hm1, e, hb⟩
    ·rcases List.mem_append.mp hb with z | z
     ·exact .inl ⟨m, hm1, e, z⟩
     ·have : x = b := by simpa using z
      exact .inr ⟨by rw [<- e, hk], this, hne, by rw [<- hk]; exact List.mem_map.mpr ⟨m, hm1, rfl⟩⟩
   ·subst e2; exact .inl ⟨m, hm1, e, hb⟩
  ·rintro (⟨n, hm, e, hb⟩ | ⟨rfl, rfl, _, hk⟩)
   ·refine ⟨_, List.mem_map.mpr ⟨n, hm, rfl⟩, ?_, ?_⟩
    ·split <;> exact e
    ·split
     ·dsimp only
      split
      ·exact hb
      ·exact List.mem_append_left _ hb
     ·exact hb
   ·obtain ⟨m, hm, e⟩ := List.mem_map.mp hk
    refine ⟨_, List.mem_map.mpr ⟨m, hm, rfl⟩, ?_, ?_⟩
    ·split <;> exact e
    ·rw [if_pos e]
     dsimp only
     split
     ·rename_i hc; simpa using hc
     ·simp
def l3 (t : Tri) : List Int := [t.1, t.2.1, t.2.2]
theorem stepA_all {f : List Int} {a : Int} {N : NL} (h : NOk N) : NOk (stepA f N a) /\ (∀ v, v ∈ keysN (stepA f N a) ↔ v ∈ keysN N \/ v = a) /\ ∀ v x, MN (stepA f N a) v x ↔ MN N v x \/ (v = a /\ x ∈ f /\ x ≠ a) := by
 have key : ∀ (g : List Int) (N : NL), NOk N -> a ∈ keysN N -> NOk (g.foldl (stepB a) N) /\ keysN (g.foldl (stepB a) N) = keysN N /\ ∀ v x, MN (g.foldl (stepB a) N) v x ↔ MN N v x \/ (v = a /\ x ∈ g /\ x ≠ a) := by
  intro g
  induction g with
  | nil => intro N h _; exact ⟨h, rfl, fun v x => by simp⟩
  | cons b g ih =>
   intro N h hk
   obtain ⟨h1, h2, h3⟩ := ih (stepB a N b) (stepB_ok h) (by rw [stepB_keys]; exact hk)
   refine ⟨h1, by rw [List.foldl_cons, h2, stepB_keys], fun v x => ?_⟩
   rw [List.foldl_cons, h3, stepB_M, List.mem_cons]
   constructor
   ·rintro ((z | ⟨e1, e2, e3, _⟩) | ⟨e1, e2, e3⟩)
    ·exact .inl z
    ·exact .inr ⟨e1, .inl e2, by rw [e2]; exact e3⟩
    ·exact .inr ⟨e1, .inr e2, e3⟩
   ·rintro (z | ⟨e1, e2 | e2, e3⟩)
    ·exact .inl (.inl z)
    ·exact .inl (.inr ⟨e1, e2, by rw [<- e2]; exact e3, hk⟩)
    ·exact .inr ⟨e1, e2, e3⟩
 obtain ⟨h1, h2, h3⟩ := key f (addA a N) (addA_ok h) (addA_keys.mpr (.inr rfl))
 refine ⟨h1, fun v => ?_, fun v x => ?_⟩
 ·show v ∈ keysN (f.foldl (stepB a) (addA a N)) ↔ _
  rw [h2, addA_keys]
 ·show MN (f.foldl (stepB a) (addA a N)) v x ↔ _
  rw [h3, addA_M]
theorem stepF_all {f : List Int} {N : NL} (h : NOk N) : NOk (stepF N f) /\ (∀ v, v ∈ keysN (stepF N f) ↔ v ∈ keysN N \/ v ∈ f) /\ ∀ v x, MN (stepF N f) v x ↔ MN N v x \/ (v ∈ f /\ x ∈ f /\ x ≠ v) := by
 have key : ∀ (g : List Int) (N : NL), NOk N -> NOk (g.foldl (stepA f) N) /\ (∀ v, v ∈ keysN (g.foldl (stepA f) N) ↔ v ∈ keysN N \/ v ∈ g) /\ ∀ v x, MN (g.foldl (stepA f) N) v x ↔ MN N v x \/ (v ∈ g /\ x ∈ f /\ x ≠ v) := by
  intro g
  induction g with
  | nil => intro N h; exact ⟨h, fun v => by simp, fun v x => by simp⟩
  | cons a g ih =>
   intro N h
   obtain ⟨a1, a2, a3⟩ := stepA_all (f := f) (a := a) h
   obtain ⟨h1, h2, h3⟩ := ih (stepA f N a) a1
   refine ⟨h1, fun v => ?_, fun v x => ?_⟩
   ·rw [List.foldl_cons, h2, a2, List.mem_cons, or_assoc]
   ·rw [List.foldl_cons, h3, a3, List.mem_cons]
    constructor
    ·rintro ((z | ⟨rfl, e2, e3⟩) | ⟨e1, e2, e3⟩)
     ·exact .inl z
     ·exact .inr ⟨.inl rfl, e2, e3⟩
     ·exact .inr ⟨.inr e1, e2, e3⟩
    ·rintro (z | ⟨rfl | e1, e2, e3⟩)
     ·exact .inl (.inl z)
     ·exact .inl (.inr ⟨rfl, e2, e3⟩)
     ·exact .inr ⟨e1, e2, e3⟩
 exact key f N h
theorem near_all (fs : List (List Int)) : NOk (nearI fs) /\ (∀ v, v ∈ keysN (nearI fs) ↔ ∃ f ∈ fs, v ∈ f) /\ ∀ v x, MN (nearI fs) v x ↔ ∃ f ∈ fs, v ∈ f /\ x ∈ f /\ x ≠ v := by
 have key : ∀ (g : List (List Int)) (N : NL), NOk N -> NOk (g.foldl stepF N) /\ (∀ v, v ∈ keysN (g.foldl stepF N) ↔ v ∈ keysN N \/ ∃ f ∈ g, v ∈ f) /\ ∀ v x, MN (g.foldl stepF N) v x ↔ MN N v x \/ ∃ f ∈ g, v ∈ f /\ x ∈ f /\ x ≠ v := by
  intro g
  induction g with
  | nil => intro N h; exact ⟨h, fun v => by simp, fun v x => by simp⟩
  | cons f g ih =>
   intro N h
   obtain ⟨a1, a2, a3⟩ := stepF_all (f := f) h
   obtain ⟨h1, h2, h3⟩ := ih (stepF N f) a1
   refine ⟨h1, fun v => ?_, fun v x => ?_⟩
   ·rw [List.foldl_cons, h2, a2]
    simp only [List.mem_cons, exists_eq_or_imp, or_assoc]
   ·rw [List.foldl_cons, h3, a3]
    simp only [List.mem_cons, exists_eq_or_imp, or_assoc]
 obtain ⟨h1, h2, h3⟩ := key fs [] ⟨List.nodup_nil, fun n hn => by cases hn⟩
 refine ⟨h1, fun v => ?_, fun v x => ?_⟩
 ·show v ∈ keysN (fs.foldl stepF []) ↔ _
  rw [h2]; simp [keysN]
 ·show MN (fs.foldl stepF []) v x ↔ _
  rw [h3]; simp [MN]
theorem nodup_perm {α : Type} [DecidableEq α] {l m : List α} (hl : l.Nodup) (hm : m.Nodup) (h : ∀ x, x ∈ l ↔ x ∈ m) : l.Perm m := by
 rw [List.perm_iff_count]
 intro x
 rw [hl.count, hm.count]
 by_cases e : x ∈ l
 ·rw [if_pos e, if_pos ((h x).mp e)]
 ·rw [if_neg e, if_neg (fun z => e ((h x).mpr z))]
theorem up_mem {k : Nat} {v : Int} : v ∈ up k ↔ 0 ≤ v /\ v < k := by
 unfold up
 rw [List.mem_map]
 constructor
 ·rintro ⟨i, hi, rfl⟩
  rw [List.mem_range] at hi
  simp only [Int.ofNat_eq_natCast]
  omega
 ·rintro ⟨h0, h1⟩
  obtain ⟨i, rfl⟩ := Int.eq_ofNat_of_zero_le h0
  exact ⟨i, List.mem_range.mpr (by omega), rfl⟩
theorem up_nodup (k : Nat) : (up k).Nodup := by
 unfold up
 rw [List.nodup_iff_pairwise_ne, List.pairwise_map]
 exact (List.nodup_iff_pairwise_ne.mp List.nodup_range).imp fun h e => h (Int.ofNat.inj e)
theorem up_len (k : Nat) : (up k).length = k := by unfold up; rw [List.length_map, List.length_range]
structure NearOk (F : List Tri) (n : Nat) (N : NL) : Prop where
 ok : NOk N
 keys : ∀ v, v ∈ keysN N ↔ 0 ≤ v /\ v < n
 mem : ∀ v is, (v, is) ∈ N -> ∀ x, x ∈ is ↔ ∃ p ∈ lnk v (spokes F), p.1 = x \/ p.2 = x
theorem good_near {F : List Tri} {n : Nat} (h : VS (spokes F) n) : NearOk F n (nearI (F.map l3)) := by
 obtain ⟨h1, h2, h3⟩ := near_all (F.map l3)
 have sp : ∀ v, (∃ f ∈ F.map l3, v ∈ f) ↔ ∃ t ∈ spokes F, t.1 = v := by
  intro v
  constructor
  ·rintro ⟨f, hf, hv⟩
   obtain ⟨t, ht, rfl⟩ := List.mem_map.mp hf
   have m := mem_spokes ht
   simp only [l3, List.mem_cons, List.not_mem_nil, or_false] at hv
   rcases hv with rfl | rfl | rfl
   ·exact ⟨_, m, rfl⟩
   ·exact ⟨_, spokes_rot _ m, rfl⟩
   ·exact ⟨_, spokes_rot _ (spokes_rot _ m), rfl⟩
  ·rintro ⟨t, ht, rfl⟩
   unfold spokes at ht
   rw [List.mem_flatMap] at ht
   obtain ⟨s, hs, hm⟩ := ht
   refine ⟨_, List.mem_map.mpr ⟨s, hs, rfl⟩, ?_⟩
   rw [mem_spk] at hm
   rcases hm with rfl | rfl | rfl <;> simp [l3, rt]
 refine ⟨h1, fun v => ?_, fun v is hm x => ?_⟩
 ·rw [h2, sp]
  constructor
  ·rintro ⟨t, ht, rfl⟩; exact h.rng t ht
  ·rintro ⟨v0, v1⟩
   obtain ⟨r, cl, hr⟩ := h.row v v0 v1
   have hne : lnk v (spokes F) ≠ [] := fun e => by
    have := hr.pm.length_eq
    rw [e, stp, pth_len] at this
    have hlo := hr.lo
    unfold wlk at this
    split at this <;> simp at this <;> omega
   obtain ⟨p, hp⟩ := List.exists_mem_of_ne_nil _ hne
   exact ⟨_, mem_lnk.mp hp, rfl⟩
 ·have e1 : x ∈ is ↔ MN (nearI (F.map l3)) v x := by
   constructor
   ·intro hx; exact ⟨_, hm, rfl, hx⟩
   ·rintro ⟨m, hm2, e, hx⟩
    have : m = (v, is) := one_of (fun q : Int × List Int => q.1) (nearI (F.map l3)) h1.kn m hm2 _ hm e
    subst this; exact hx
  rw [e1, h3]
  constructor
  ·rintro ⟨f, hf, hv, hx, hne⟩
   obtain ⟨t, ht, rfl⟩ := List.mem_map.mp hf
   have m := mem_spokes ht
   have m2 := spokes_rot _ m
   have m3 := spokes_rot _ m2
   obtain ⟨a, b, c⟩ := t
   simp only [l3, List.mem_cons, List.not_mem_nil, or_false] at hv hx
   simp only [rt] at m2 m3
   rcases hv with rfl | rfl | rfl
   ·exact ⟨(b, c), mem_lnk.mpr m, by rcases hx with rfl | rfl | rfl <;> simp_all⟩
   ·exact ⟨(c, a), mem_lnk.mpr m2, by rcases hx with rfl | rfl | rfl <;> simp_all⟩
   ·exact ⟨(a, b), mem_lnk.mpr m3, by rcases hx with rfl | rfl | rfl <;> simp_all⟩
  ·rintro ⟨p, hp, e⟩
   have m := mem_lnk.mp hp
   have i1 := h.irr _ m
   have i2 := h.irr _ (h.rot _ (h.rot _ m))
   simp only [rt] at i1 i2
   unfold spokes at m
   rw [List.mem_flatMap] at m
   obtain ⟨s, hs, hm2⟩ := m
   refine ⟨_, List.mem_map.mpr ⟨s, hs, rfl⟩, ?_⟩
   obtain ⟨a, b, c⟩ := s
   rw [mem_spk] at hm2
   simp only [rt, Prod.mk.injEq] at hm2
   simp only [l3, List.mem_cons, List.not_mem_nil, or_false]
   rcases hm2 with ⟨rfl, e2, e3⟩ | ⟨rfl, e2, e3⟩ | ⟨rfl, e2, e3⟩ <;> (rw [e2, e3] at e; rw [e2] at i1; rw [e3] at i2; rcases e with rfl | rfl) <;> simp_all [eq_comm]
theorem NearOk.len {F : List Tri} {n : Nat} {N : NL} (h : NearOk F n N) : N.length = n := by
 have p : (keysN N).Perm (up n) := nodup_perm h.ok.kn (up_nodup n) fun x => by rw [h.keys, up_mem]
 have := p.length_eq
 rw [up_len] at this
 rw [<- this]; unfold keysN; rw [List.length_map]
theorem NearOk.row {F : List Tri} {n : Nat} {N : NL} (h : NearOk F n N) {v : Int} {is : List Int} (hm : (v, is) ∈ N) {r : List Int} {cl : Bool} (hr : Row (lnk v (spokes F)) r cl) : is.Perm r := by
 refine nodup_perm (h.ok.ls _ hm) hr.nd fun x => ?_
 rw [h.mem v is hm]
 constructor
 ·rintro ⟨p, hp, e⟩
  have := hr.mem_l (x := p.1) (y := p.2) hp
  rcases e with rfl | rfl
  ·exact this.1
  ·exact this.2
 ·exact fun z => hr.mem_r z
theorem NearOk.at {F : List Tri} {n : Nat} {N : NL} (h : NearOk F n N) {v : Int} (h0 : 0 ≤ v) (h1 : v < n) : ∃ is, (v, is) ∈ N := by
 obtain ⟨m, hm, e⟩ := List.mem_map.mp ((h.keys v).mpr ⟨h0, h1⟩)
 exact ⟨m.2, by rw [<- e]; exact hm⟩
theorem NearOk.sz {F : List Tri} {n : Nat} {N : NL} (h : NearOk F n N) (hv : VS (spokes F) n) (hn : n ≤ 24) : szN N < 900000 := by
 have hl := h.len
 have : (N.map fun n => n.2.length).sum ≤ (N.map fun _ => 8).sum := sum_le fun x hx => by
  have hk := (h.keys x.1).mp (List.mem_map.mpr ⟨x, hx, rfl⟩)
  obtain ⟨r, cl, hr⟩ := hv.row x.1 hk.1 hk.2
  rw [(h.row (v := x.1) (is := x.2) hx hr).length_eq]
  exact hr.hi
 have e8 : ∀ L : NL, (L.map fun _ => 8).sum = 8 * L.length := by
  intro L
  induction L with
  | nil => rfl
  | cons a L ih => rw [List.map_cons, List.sum_cons, ih, List.length_cons]; omega
 rw [e8] at this
 unfold szN
 omega
end Cg
namespace Cg
theorem Row.fst_perm {L : List (Int × Int)} {r : List Int} {cl : Bool} (h : Row L r cl) : (L.map (·.1)).Perm (if cl then r else r.dropLast) := by
 have p := h.pm.map (·.1)
 unfold stp at p
 rw [pth_fst] at p
 refine p.trans ?_
 unfold wlk
 cases cl with
 | false => exact List.Perm.refl _
 | true =>
  cases r with
  | nil => exact List.Perm.refl _
  | cons a r =>
   show ((a :: r) ++ [a]).dropLast.Perm (a :: r)
   rw [List.dropLast_concat]
theorem Row.snd_perm {L : List (Int × Int)} {r : List Int} {cl : Bool} (h : Row L r cl) : (L.map (·.2)).Perm (if cl then r else r.tail) := by
 have p := h.pm.map (·.2)
 unfold stp at p
 rw [pth_snd] at p
 refine p.trans ?_
 unfold wlk
 cases cl with
 | false => exact List.Perm.refl _
 | true =>
  cases r with
  | nil => exact List.Perm.refl _
  | cons a r =>
   show (r ++ [a]).Perm (a :: r)
   exact List.perm_append_comm (l₁ := r) (l₂ := [a])
theorem Row.fst_nd {L : List (Int × Int)} {r : List Int} {cl : Bool} (h : Row L r cl) : (L.map (·.1)).Nodup := by
 rw [h.fst_perm.nodup_iff]
 split
 ·exact h.nd
 ·exact h.nd.sublist (List.dropLast_sublist r)
theorem Row.step {L : List (Int × Int)} {r : List Int} {cl : Bool} (h : Row L r cl) {i : Nat} (hi : i + 1 < r.length) : (r[i], r[i + 1]) ∈ L := by
 rw [h.pm.mem_iff]
 have e : r = r.take i ++ r[i] :: r[i + 1] :: r.drop (i + 2) := by
  rw [<- List.drop_eq_getElem_cons hi, <- List.drop_eq_getElem_cons (by omega), List.take_append_drop]
 have w : ∃ t, wlk r cl = r ++ t := by unfold wlk; split; exact ⟨_, rfl⟩; exact ⟨[], by simp⟩
 obtain ⟨t, et⟩ := w
 unfold stp
 rw [et]
 have e2 : r ++ t = r.take i ++ r[i] :: r[i + 1] :: (r.drop (i + 2) ++ t) := by
  have := congrArg (· ++ t) e
  simp only [List.append_assoc, List.cons_append] at this
  exact this
 rw [e2]
 exact pth_in _ _
theorem Row.back {L : List (Int × Int)} {x : Int} {q : List Int} (h : Row L (x :: q) true) : ((x :: q)[q.length]'(by simp), x) ∈ L := by
 rw [h.pm.mem_iff]
 rcases List.eq_nil_or_concat q with e | ⟨p, y, e⟩
 ·subst e
  have := h.lo
  simp at this
 ·rw [List.concat_eq_append] at e
  subst e
  have e2 : (x :: (p ++ [y]))[(p ++ [y]).length]'(by simp) = y := by simp
  rw [e2]
  show (y, x) ∈ pth (x :: (p ++ [y]) ++ [x])
  have e3 : x :: (p ++ [y]) ++ [x] = (x :: p) ++ y :: x :: [] := by simp
  rw [e3]
  exact pth_in _ _
theorem Row.stop {L : List (Int × Int)} {x : Int} {q : List Int} (h : Row L (x :: q) false) : (x :: q)[q.length]'(by simp) ∉ L.map (·.1) := by
 intro z
 have := h.fst_perm.mem_iff.mp z
 have nd := h.nd
 rcases List.eq_nil_or_concat q with e | ⟨p, y, e⟩
 ·subst e
  have := h.lo
  simp at this
 ·rw [List.concat_eq_append] at e
  subst e
  have e2 : (x :: (p ++ [y]))[(p ++ [y]).length]'(by simp) = y := by simp
  rw [e2] at this
  have e3 : x :: (p ++ [y]) = (x :: p) ++ [y] := by simp
  rw [if_neg (by simp), e3, List.dropLast_concat] at this
  rw [e3, List.nodup_append] at nd
  exact nd.2.2 y this y (by simp) rfl
theorem nxt_mem {L : List (Int × Int)} {x y : Int} (nd : (L.map (·.1)).Nodup) : nxt L x = some y ↔ (x, y) ∈ L := by
 induction L with
 | nil => simp [nxt]
 | cons p L ih =>
  rw [List.map_cons, List.nodup_cons] at nd
  obtain ⟨a, b⟩ := p
  unfold nxt at ih ⊢
  rw [List.find?_cons]
  by_cases e : a = x
  ·subst e
   simp only [beq_self_eq_true, Option.map_some, List.mem_cons, Prod.mk.injEq, true_and]
   constructor
   ·intro h; cases h; exact .inl rfl
   ·rintro (h | h)
    ·rw [h]
    ·exact absurd (List.mem_map.mpr ⟨_, h, rfl⟩) nd.1
  ·have : (a == x) = false := by simpa using e
   simp only [this, Prod.mk.injEq, List.mem_cons]
   rw [ih nd.2]
   constructor
   ·exact .inr
   ·rintro (⟨h, _⟩ | h)
    ·exact absurd h.symm e
    ·exact h
theorem nxt_none {L : List (Int × Int)} {x : Int} : nxt L x = none ↔ x ∉ L.map (·.1) := by
 unfold nxt
 rw [Option.map_eq_none_iff, List.find?_eq_none, List.mem_map]
 constructor
 ·rintro h ⟨p, hp, rfl⟩
  exact h p hp (by simp)
 ·intro h p hp e
  exact h ⟨p, hp, by simpa using e⟩
structure Ring (L : List (Int × Int)) (x : Int) (q : List Int) (cl : Bool) : Prop where
 row : Row L (x :: q) cl
 low : cl = true -> ∀ y ∈ q, x ≤ y
theorem min_of : ∀ (r : List Int), r ≠ [] -> ∃ x ∈ r, ∀ y ∈ r, x ≤ y
 | [], h => absurd rfl h
 | [a], _ => ⟨a, by simp, by simp⟩
 | a :: b :: r, _ => by
  obtain ⟨x, hx, h⟩ := min_of (b :: r) (by simp)
  by_cases e : a ≤ x
  ·refine ⟨a, by simp, fun y hy => ?_⟩
   rcases List.mem_cons.mp hy with rfl | hy
   ·omega
   ·have := h y hy; omega
  ·refine ⟨x, List.mem_cons_of_mem _ hx, fun y hy => ?_⟩
   rcases List.mem_cons.mp hy with rfl | hy
   ·omega
   ·exact h y hy
theorem Row.ring {L : List (Int × Int)} {r : List Int} {cl : Bool} (h : Row L r cl) : ∃ x q, Ring L x q cl /\ (x :: q).length = r.length /\ ∀ z, z ∈ x :: q ↔ z ∈ r := by
 cases cl with
 | false =>
  cases r with
  | nil => have := h.lo; simp at this
  | cons x q => exact ⟨x, q, ⟨h, fun e => by cases e⟩, rfl, fun _ => Iff.rfl⟩
 | true =>
  obtain ⟨x, hx, hm⟩ := min_of r (fun e => by have := h.lo; rw [e] at this; simp at this)
  obtain ⟨p, q, e⟩ := List.append_of_mem hx
  subst e
  refine ⟨x, q ++ p, ⟨by have := h.rotTo; simpa using this, fun _ y hy => hm y ?_⟩, by simp; omega, fun z => ?_⟩
  ·simp only [List.mem_append, List.mem_cons] at hy ⊢
   rcases hy with h | h
   ·exact .inr (.inr h)
   ·exact .inl h
  ·simp only [List.mem_append, List.mem_cons]
   constructor
   ·rintro (h | h | h)
    ·exact .inr (.inl h)
    ·exact .inr (.inr h)
    ·exact .inl h
   ·rintro (h | h | h)
    ·exact .inr (.inr h)
    ·exact .inl h
    ·exact .inr (.inl h)
theorem Ring.adv {L : List (Int × Int)} {x : Int} {q : List Int} {cl : Bool} (h : Ring L x q cl) {j : Nat} (hj : j < (x :: q).length) : nxt L (x :: q)[j] = if hj1 : j + 1 < (x :: q).length then some (x :: q)[j + 1] else if cl then some x else none := by
 split
 ·rename_i hj1
  exact (nxt_mem h.row.fst_nd).mpr (h.row.step hj1)
 ·rename_i hj1
  have e : j = q.length := by simp at hj hj1; omega
  subst e
  cases cl with
  | true => exact (nxt_mem h.row.fst_nd).mpr h.row.back
  | false => exact nxt_none.mpr h.row.stop
theorem Ring.ne {L : List (Int × Int)} {x : Int} {q : List Int} {cl : Bool} (h : Ring L x q cl) {j : Nat} (hj : j + 1 < (x :: q).length) : (x :: q)[j + 1] ≠ x := by
 intro e
 have nd := h.row.nd
 rw [List.nodup_cons] at nd
 refine nd.1 ?_
 rw [List.getElem_cons_succ] at e
 rw [<- e]
 exact List.getElem_mem _
theorem Ring.start {L : List (Int × Int)} {x : Int} {q : List Int} {cl : Bool} (h : Ring L x q cl) {y : Int} (hy : y ∈ L.map (·.1)) : y ∉ L.map (·.2) ↔ (cl = false /\ y = x) := by
 have p1 := h.row.fst_perm.mem_iff.mp hy
 rw [h.row.snd_perm.mem_iff]
 cases cl with
 | true =>
  simp only [if_pos] at p1 ⊢
  constructor
  ·intro z; exact absurd p1 z
  ·rintro ⟨e, _⟩; cases e
 | false =>
  simp only [if_neg, Bool.false_eq_true, not_false_eq_true, List.tail_cons, true_and] at p1 ⊢
  have p2 := List.dropLast_subset _ p1
  have nd := h.row.nd
  rw [List.nodup_cons] at nd
  constructor
  ·intro z
   rcases List.mem_cons.mp p2 with e | e
   ·exact e
   ·exact absurd e z
  ·intro e z
   rw [e] at z
   exact nd.1 z
theorem Ring.mem_fst {L : List (Int × Int)} {x : Int} {q : List Int} {cl : Bool} (h : Ring L x q cl) : x ∈ L.map (·.1) := by
 have hl := h.row.lo
 have := h.row.step (i := 0) (by omega)
 exact List.mem_map.mpr ⟨_, this, rfl⟩
theorem Ring.len {L : List (Int × Int)} {x : Int} {q : List Int} {cl : Bool} (h : Ring L x q cl) : L.length = if cl then q.length + 1 else q.length := by
 have := h.row.fst_perm.length_eq
 rw [List.length_map] at this
 rw [this]
 cases cl <;> simp
def pr (x y : Int) : Int × Int := (if y < x then y else x, if y > x then y else x)
theorem pr_comm (x y : Int) : pr x y = pr y x := by
 unfold pr
 rcases Int.lt_trichotomy x y with h | h | h
 ·rw [if_neg (by omega), if_pos h, if_pos h, if_neg (by omega)]
 ·subst h; rfl
 ·rw [if_pos h, if_neg (by omega), if_neg (by omega), if_pos h]
theorem pr_or (x y : Int) : pr x y = (x, y) \/ pr x y = (y, x) := by
 unfold pr
 rcases Int.lt_trichotomy x y with h | h | h
 ·rw [if_neg (by omega), if_pos h]; exact .inl rfl
 ·subst h; simp
 ·rw [if_pos h, if_neg (by omega)]; exact .inr rfl
def SB (W : List (Int × Int)) (m : Nat) : Prop := ∃ L : List (Int × Int), L.length ≤ m /\ ∀ w ∈ W, pr w.1 w.2 ∈ L
theorem SB.sub {W W' : List (Int × Int)} {m : Nat} (h : SB W m) (s : ∀ w ∈ W', w ∈ W) : SB W' m := by
 obtain ⟨L, l, hL⟩ := h
 exact ⟨L, l, fun w hw => hL w (s w hw)⟩
theorem SB.mono {W : List (Int × Int)} {m m' : Nat} (h : SB W m) (s : m ≤ m') : SB W m' := by
 obtain ⟨L, l, hL⟩ := h
 exact ⟨L, by omega, hL⟩
theorem SB.map {W : List (Int × Int)} {m : Nat} (f : Int -> Int) (h : SB W m) : SB (W.map fun w => (f w.1, f w.2)) m := by
 obtain ⟨L, l, hL⟩ := h
 refine ⟨L.map fun p => pr (f p.1) (f p.2), by rw [List.length_map]; exact l, fun w hw => ?_⟩
 obtain ⟨v, hv, rfl⟩ := List.mem_map.mp hw
 refine List.mem_map.mpr ⟨_, hL v hv, ?_⟩
 rcases pr_or v.1 v.2 with e | e
 ·rw [e]
 ·rw [e]; exact pr_comm _ _
theorem SB.split {S T : List Tri} {a b c n : Int} {m : Nat} (h : SB (S.map way) m) (p : S.Perm (spk (a, b, c) ++ T)) : SB ((spk (a, b, n) ++ (spk (b, c, n) ++ (spk (c, a, n) ++ T))).map way) (m + 3) := by
 obtain ⟨L, l, hL⟩ := h
 refine ⟨pr a n :: pr b n :: pr c n :: L, by simp; omega, fun w hw => ?_⟩
 have old : ∀ t ∈ spk (a, b, c) ++ T, pr t.1 t.2.1 ∈ L := fun t ht => hL _ (List.mem_map.mpr ⟨t, p.mem_iff.mpr ht, rfl⟩)
 obtain ⟨t, ht, rfl⟩ := List.mem_map.mp hw
 have o1 := old (a, b, c) (by simp [spk])
 have o2 := old (b, c, a) (by simp [spk, rt])
 have o3 := old (c, a, b) (by simp [spk, rt])
 simp only [List.mem_append, mem_spk] at ht
 rcases ht with (rfl | rfl | rfl) | (rfl | rfl | rfl) | (rfl | rfl | rfl) | ht
 ·simp only [way]; simp [o1]
 ·simp only [way, rt]; simp
 ·simp only [way, rt]; rw [pr_comm n a]; simp
 ·simp only [way]; simp [o2]
 ·simp only [way, rt]; simp
 ·simp only [way, rt]; rw [pr_comm n b]; simp
 ·simp only [way]; simp [o3]
 ·simp only [way, rt]; simp
 ·simp only [way, rt]; rw [pr_comm n c]; simp
 ·have := old t (List.mem_append_right _ ht)
  simp only [way]; simp [this]
theorem nodup_le {α : Type} [DecidableEq α] : ∀ {l m : List α}, l.Nodup -> (∀ x ∈ l, x ∈ m) -> l.length ≤ m.length
 | [], m, _, _ => by simp
 | a :: l, m, nd, h => by
  rw [List.nodup_cons] at nd
  have ha : a ∈ m := h a (by simp)
  have := nodup_le (l := l) (m := m.erase a) nd.2 fun x hx => (List.mem_erase_of_ne (fun e => nd.1 (by rw [<- e]; exact hx))).mpr (h x (List.mem_cons_of_mem _ hx))
  rw [List.length_erase_of_mem ha] at this
  have := List.length_pos_of_mem ha
  simp only [List.length_cons]
  omega
theorem SB.len {W : List (Int × Int)} {m : Nat} (h : SB W m) {P : List (Int × Int)} (nd : P.Nodup) (hp : ∀ p ∈ P, ∃ w ∈ W, p = pr w.1 w.2) : P.length ≤ m := by
 obtain ⟨L, l, hL⟩ := h
 refine Nat.le_trans (nodup_le nd fun x hx => ?_) l
 obtain ⟨w, hw, rfl⟩ := hp x hx
 exact hL w hw
structure Fine (F : List Tri) (n : Nat) : Prop where
 good : Good F n
 sb : SB ((spokes F).map way) (n + F.length)
def splitF (F : List Tri) (i : Nat) (a b c n : Int) : List Tri := F.take i ++ [(a, b, n)] ++ F.drop (i + 1) ++ [(b, c, n), (c, a, n)]
theorem SB.of_perm {W W' : List (Int × Int)} {m : Nat} (h : SB W m) (p : W'.Perm W) : SB W' m := h.sub fun w hw => p.mem_iff.mp hw
theorem Fine.split {F : List Tri} {n i : Nat} (h : Fine F n) (hi : i < F.length) {a b c : Int} (hF : F[i] = (a, b, c)) (hn : n < 24) (hf : F.length < 31)
    (h7 : ∀ v r cl, v = a \/ v = b \/ v = c -> Row (lnk v (spokes F)) r cl -> r.length ≤ 7) : Fine (splitF F i a b c n) (n + 1) := by
  have eF : F = F.take i ++ (a, b, c) :: F.drop (i + 1) := by
    rw [<- hF, <- List.drop_eq_getElem_cons hi, List.take_append_drop]
  have p : (spokes F).Perm (spk (a, b, c) ++ spokes (F.take i ++ F.drop (i + 1))) := by
    have : F.Perm ((a, b, c) :: (F.take i ++ F.drop (i + 1))) := by
      have q := List.perm_middle (l₁ := F.take i) (a := (a, b, c)) (l₂ := F.drop (i + 1))
      rw [<- eF] at q
      exact q
    exact (spokes_perm this).trans (by rw [spokes_cons])
  have p2 : (spokes (splitF F i a b c n)).Perm (spk (a, b, (n : Int)) ++ (spk (b, c, (n : Int)) ++ (spk (c, a, (n : Int)) ++ spokes (F.take i ++ F.drop (i + 1))))) := by
    have : (splitF F i a b c n).Perm ((a, b, (n : Int)) :: (b, c, (n : Int)) :: (c, a, (n : Int)) :: (F.take i ++ F.drop (i + 1))) := by
      unfold splitF
      refine List.perm_iff_count.mpr fun x => ?_
      simp only [List.count_append, List.count_cons, List.count_nil]
      omega
    exact (spokes_perm this).trans (by rw [spokes_cons, spokes_cons, spokes_cons])
  have len : (splitF F i a b c n).length = F.length + 2 := by
    unfold splitF
    simp only [List.length_append, List.length_take, List.length_drop, List.length_cons, List.length_nil]
    omega
  have g := h.good
  have v1 := VS.split g.vs p (fun t ht => spokes_rot t ht) (by omega) h7
  refine ⟨⟨?_, by have := g.n3; omega, by omega, by rw [len]; omega, by rw [len]; omega⟩, ?_⟩
  · have := v1.perm p2
    simpa using this
  · have s1 := SB.split (n := (n : Int)) h.sb p
    rw [len]
    exact (s1.of_perm (p2.map way)).mono (by omega)
theorem Fine.perm {F F' : List Tri} {n : Nat} (h : Fine F n) (p : (spokes F').Perm (spokes F)) (l : F'.length = F.length) : Fine F' n :=
 ⟨⟨h.good.vs.perm p, h.good.n3, h.good.n24, by rw [l]; exact h.good.f1, by rw [l]; exact h.good.f32⟩, by rw [l]; exact h.sb.of_perm (p.map way)⟩
inductive Hang (A : Nat -> Nat -> Prop) : Nat -> Nat -> Prop
 | refl (i : Nat) : Hang A i i
 | step {i j k : Nat} : Hang A i j -> A j k -> Hang A i k
theorem Hang.trans {A : Nat -> Nat -> Prop} {i j k : Nat} (h : Hang A i j) (h2 : Hang A j k) : Hang A i k := by
 induction h2 with
 | refl => exact h
 | step _ a ih => exact .step ih a
theorem Hang.symm {A : Nat -> Nat -> Prop} (sy : ∀ i j, A i j -> A j i) {i j : Nat} (h : Hang A i j) : Hang A j i := by
 induction h with
 | refl => exact .refl _
 | step _ a ih => exact Hang.trans (.step (.refl _) (sy _ _ a)) ih
def Pth (L : List (Int × Int)) (x : Int) (cl : Bool) : Int -> List Int -> Prop
 | c, [] => nxt L c = if cl then some x else none
 | c, y :: q => nxt L c = some y /\ y ≠ x /\ Pth L x cl y q
theorem pth_adv {L : List (Int × Int)} {x : Int} {cl : Bool} : ∀ {q : List Int} {c : Int}, Pth L x cl c q -> ∀ {j : Nat} (hj : j < (c :: q).length), nxt L (c :: q)[j] = if hj1 : j + 1 < (c :: q).length then some (c :: q)[j + 1] else if cl then some x else none
 | [], c, h, j, hj => by
  have : j = 0 := by simp at hj; omega
  subst this
  rw [dif_neg (by simp)]
  exact h
 | y :: q, c, h, 0, hj => by
  rw [dif_pos (by simp)]
  exact h.1
 | y :: q, c, h, j + 1, hj => by
  have := pth_adv h.2.2 (j := j) (by simpa using hj)
  simp only [List.length_cons, List.getElem_cons_succ] at this ⊢
  rw [this]
  by_cases e : j + 1 < q.length + 1
  ·rw [dif_pos e, dif_pos (by omega)]
  ·rw [dif_neg e, dif_neg (by omega)]
theorem nodup_in_len : ∀ {l r : List Int}, l.Nodup -> (∀ x ∈ l, x ∈ r) -> l.length ≤ r.length
 | [], _, _, _ => Nat.zero_le _
 | x :: l, r, nd, h => by
  rw [List.nodup_cons] at nd
  have a := nodup_in_len (l := l) (r := r.erase x) nd.2 fun y hy => (List.mem_erase_of_ne (fun e : y = x => nd.1 (by rw [<- e]; exact hy))).mpr (h y (List.mem_cons_of_mem _ hy))
  rw [List.length_erase_of_mem (h x List.mem_cons_self)] at a
  have := List.length_pos_of_mem (h x List.mem_cons_self)
  rw [List.length_cons]
  omega
theorem pth_go {L : List (Int × Int)} (fnd : (L.map (·.1)).Nodup) (snd : (L.map (·.2)).Nodup) {x : Int} : ∀ (k : Nat) (p : List Int) (c : Int), k + p.length = L.length -> (p ++ [c]).Nodup -> (∃ r, p ++ [c] = x :: r) -> (∀ y ∈ p ++ [c], y = x \/ ∃ z ∈ p, nxt L z = some y) -> (∀ z ∈ p, (nxt L z).isSome) ->
    ∃ q cl, Pth L x cl c q /\ (p ++ [c] ++ q).Nodup
  | k, p, c, hk, nd, hx, hp, hs => by
    cases e : nxt L c with
    | none => exact ⟨[], false, e, by simpa using nd⟩
    | some y =>
      by_cases yx : y = x
      · exact ⟨[], true, by show _ = some x; rw [e, yx], by simpa using nd⟩
      · have yn : y ∉ p ++ [c] := by
          intro z
          rcases hp y z with h | ⟨w, hw, ew⟩
          · exact yx h
          · have m1 := (nxt_mem fnd).mp e
            have m2 := (nxt_mem fnd).mp ew
            have : (c, y) = (w, y) := by
              have key : ∀ (M : List (Int × Int)), (M.map (·.2)).Nodup -> ∀ {a b : Int × Int}, a ∈ M -> b ∈ M -> a.2 = b.2 -> a = b := by
                intro M
                induction M with
                | nil => intro _ a b ha; cases ha
                | cons m M ih =>
                  intro nd a b ha hb e
                  rw [List.map_cons, List.nodup_cons] at nd
                  rcases List.mem_cons.mp ha with ha' | ha'
                  · rcases List.mem_cons.mp hb with hb' | hb'
                    · rw [ha', hb']
                    · exact absurd (List.mem_map.mpr ⟨b, hb', by rw [<- e, ha']⟩) nd.1
                  · rcases List.mem_cons.mp hb with hb' | hb'
                    · exact absurd (List.mem_map.mpr ⟨a, ha', by rw [e, hb']⟩) nd.1
                    · exact ih nd.2 ha' hb' e
              exact key L snd m1 m2 rfl
            have : c = w := congrArg Prod.fst this
            subst this
            rw [List.nodup_append] at nd
            exact nd.2.2 c hw c (by simp) rfl
        cases k with
        | zero =>
          exfalso
          have : (p ++ [c]).length ≤ (L.map (·.1)).length := nodup_in_len nd fun z hz => by
            have : (nxt L z).isSome := by
              rcases List.mem_append.mp hz with h | h
              · exact hs z h
              · rw [List.mem_singleton] at h; rw [h, e]; rfl
            refine Classical.byContradiction fun w => ?_
            rw [nxt_none.mpr w] at this
            cases this
          rw [List.length_append, List.length_map] at this
          simp at this
          omega
        | succ k =>
          obtain ⟨r, er⟩ := hx
          obtain ⟨q, cl, h1, h2⟩ := pth_go fnd snd k (p ++ [c]) y (by rw [List.length_append]; simp; omega) (by
            rw [List.nodup_append]
            exact ⟨nd, by simp, fun a ha b hb e' => yn (by rw [<- List.mem_singleton.mp hb, <- e']; exact ha)⟩) ⟨r ++ [y], by rw [er]; rfl⟩ (fun z hz => by
            rcases List.mem_append.mp hz with h | h
            · rcases hp z h with w | ⟨w, hw, ew⟩
              · exact .inl w
              · exact .inr ⟨w, List.mem_append_left _ hw, ew⟩
            · rw [List.mem_singleton] at h
              subst h
              exact .inr ⟨c, by simp, e⟩) (fun z hz => by
            rcases List.mem_append.mp hz with h | h
            · exact hs z h
            · rw [List.mem_singleton] at h; rw [h, e]; rfl)
          exact ⟨y :: q, cl, ⟨e, yx, h1⟩, by
            rw [List.append_assoc (p ++ [c])] at h2
            exact h2⟩
structure RingG (L : List (Int × Int)) (x : Int) (q : List Int) (cl : Bool) : Prop where
 fnd : (L.map (·.1)).Nodup
 snd : (L.map (·.2)).Nodup
 nd : (x :: q).Nodup
 xk : x ∈ L.map (·.1)
 s0 : ((L.map (·.1)).filter fun y => !(L.map (·.2)).contains y) = [] -> ∀ y ∈ L.map (·.1), x ≤ y
 s1 : ((L.map (·.1)).filter fun y => !(L.map (·.2)).contains y) ≠ [] -> x ∈ ((L.map (·.1)).filter fun y => !(L.map (·.2)).contains y) /\ ∀ y ∈ ((L.map (·.1)).filter fun y => !(L.map (·.2)).contains y), x ≤ y
 pth : Pth L x cl x q
theorem ringG_ex {L : List (Int × Int)} (fnd : (L.map (·.1)).Nodup) (snd : (L.map (·.2)).Nodup) (h0 : L ≠ []) : ∃ x q cl, RingG L x q cl := by
 have k0 : L.map (·.1) ≠ [] := by simpa using h0
 obtain ⟨x, xk, a, b⟩ : ∃ x, x ∈ L.map (·.1) /\ (((L.map (·.1)).filter fun y => !(L.map (·.2)).contains y) = [] -> ∀ y ∈ L.map (·.1), x ≤ y) /\ (((L.map (·.1)).filter fun y => !(L.map (·.2)).contains y) ≠ [] -> x ∈ ((L.map (·.1)).filter fun y => !(L.map (·.2)).contains y) /\ ∀ y ∈ ((L.map (·.1)).filter fun y => !(L.map (·.2)).contains y), x ≤ y) := by
  by_cases e : ((L.map (·.1)).filter fun y => !(L.map (·.2)).contains y) = []
  ·obtain ⟨x, hx, h⟩ := min_of _ k0
   exact ⟨x, hx, fun _ => h, fun z => absurd e z⟩
  ·obtain ⟨x, hx, h⟩ := min_of _ e
   exact ⟨x, (List.mem_filter.mp hx).1, fun z => absurd z e, fun _ => ⟨hx, h⟩⟩
 obtain ⟨q, cl, h1, h2⟩ := pth_go fnd snd (x := x) L.length [] x (by simp) (by simp) ⟨[], rfl⟩ (fun y hy => .inl (by simpa using hy)) (fun z hz => by cases hz)
 exact ⟨x, q, cl, fnd, snd, by simpa using h2, xk, a, b, h1⟩
theorem RingG.adv {L : List (Int × Int)} {x : Int} {q : List Int} {cl : Bool} (h : RingG L x q cl) {j : Nat} (hj : j < (x :: q).length) : nxt L (x :: q)[j] = if hj1 : j + 1 < (x :: q).length then some (x :: q)[j + 1] else if cl then some x else none := pth_adv h.pth hj
theorem RingG.ne {L : List (Int × Int)} {x : Int} {q : List Int} {cl : Bool} (h : RingG L x q cl) {j : Nat} (hj : j + 1 < (x :: q).length) : (x :: q)[j + 1] ≠ x := by
 intro e
 have nd := h.nd
 rw [List.nodup_cons] at nd
 refine nd.1 ?_
 rw [List.getElem_cons_succ] at e
 rw [<- e]
 exact List.getElem_mem _
theorem RingG.sub {L : List (Int × Int)} {x : Int} {q : List Int} {cl : Bool} (h : RingG L x q cl) : ∀ y ∈ x :: q, y ∈ L.map (·.1) ++ L.map (·.2) := by
 intro y hy
 rcases List.mem_cons.mp hy with e | e
 ·rw [e]; exact List.mem_append_left _ h.xk
 ·obtain ⟨j, hj, e⟩ := List.mem_iff_getElem.mp e
  have hj1 : j + 1 < (x :: q).length := by simp; exact hj
  have := h.adv (j := j) (by omega)
  rw [dif_pos hj1, List.getElem_cons_succ, e] at this
  exact List.mem_append_right _ (List.mem_map.mpr ⟨_, (nxt_mem h.fnd).mp this, rfl⟩)
theorem RingG.closed {L : List (Int × Int)} {x : Int} {q : List Int} {cl : Bool} (h : RingG L x q cl) (all : ∀ y ∈ L.map (·.1) ++ L.map (·.2), y ∈ x :: q) : cl = true ↔ ((∀ y ∈ L.map (·.1), y ∈ L.map (·.2)) /\ ∀ y ∈ L.map (·.2), y ∈ L.map (·.1)) := by
 have last := h.adv (j := q.length) (by simp)
 rw [dif_neg (by simp)] at last
 constructor
 ·intro e
  rw [e, if_pos rfl] at last
  have pos : ∀ y ∈ x :: q, y ∈ L.map (·.1) /\ y ∈ L.map (·.2) := by
   intro y hy
   obtain ⟨j, hj, ey⟩ := List.mem_iff_getElem.mp hy
   constructor
   ·have := h.adv hj
    rw [ey] at this
    refine Classical.byContradiction fun w => ?_
    rw [nxt_none.mpr w, e, if_pos rfl] at this
    split at this <;> cases this
   ·cases j with
    | zero =>
     have : x = y := ey
     rw [<- this]
     exact List.mem_map.mpr ⟨_, (nxt_mem h.fnd).mp last, rfl⟩
    | succ j =>
     have := h.adv (j := j) (by omega)
     rw [dif_pos hj, ey] at this
     exact List.mem_map.mpr ⟨_, (nxt_mem h.fnd).mp this, rfl⟩
  exact ⟨fun y hy => (pos y (all y (List.mem_append_left _ hy))).2, fun y hy => (pos y (all y (List.mem_append_right _ hy))).1⟩
 ·rintro ⟨h1, h2⟩
  cases cl with
  | true => rfl
  | false =>
   exfalso
   rw [if_neg Bool.false_ne_true] at last
   have lk : (x :: q)[q.length]'(by simp) ∉ L.map (·.1) := nxt_none.mp last
   have := h.sub _ (List.getElem_mem (l := x :: q) (n := q.length) (by simp))
   rcases List.mem_append.mp this with z | z
   ·exact lk z
   ·exact lk (h2 _ z)
end Cg
namespace Ck
open PySem PySem.Spec PyProof.Rows L2 Mp
def ctab_Web : CTab := [("Web", ["trios", "third", "after", "pairs", "told", "quick"])]
abbrev ar_Web : List D -> List D -> List D := fun ds _ => ds
def b_law_box : ME -> MS := mRet (mLst (mCons (mCall1 gListB (mSlV 0 mNoPart (mPart (mC (.int 63))))) (mCons (mC (.int 0)) (mCons (mC (.int 0)) (mCons (mC (.int 7)) (mCons (mC (.int 0)) mNil))))))
def m_law_box : MF := fnM 0 b_law_box
def b_law_draw : ME -> MS := (mSeq (mIfS (mAndB (mTst (mOp gLt (mIxV 0 (mC (.int 2))) (mVar 1))) (mTst (mOp gLt (mIxV 0 (mC (.int 1))) (mCall1 gLen (mIxV 0 (mC (.int 0)))))))
 (mSeq (mSet 2 (mIx (mIxV 0 (mC (.int 0))) (mIxV 0 (mC (.int 1))))) (mSeq (mSub 0 (mC (.int 1)) (mOp gAdd (mIxV 0 (mC (.int 1))) (mC (.int 1)))) (mSeq (mSub 0 (mC (.int 2)) (mC (.int 0))) (mSeq (mSub 0 (mC (.int 3)) (mOp gMod (mOp gAdd (mOp gAdd (mOp gMulA (mIxV 0 (mC (.int 3))) (mC (.int 69621))) (mVar 2)) (mIxV 0 (mC (.int 1)))) (mC (.int 2147483629)))) (mIfS (mTst (mOp gGe (mVar 2) (mOp gPow (mC (.int 10)) (mC (.int 18)))))
 (mSub 0 (mC (.int 2)) (mVar 2))
 mSkip)))))
 mSkip) (mSeq (mIfS (mTst (mOp gGe (mIxV 0 (mC (.int 2))) (mVar 1)))
 (mSeq (mSet 3 (mOp gMod (mIxV 0 (mC (.int 2))) (mVar 1))) (mSeq (mSub 0 (mC (.int 2)) (mOp gFdv (mIxV 0 (mC (.int 2))) (mVar 1))) (mRet (mVar 3))))
 mSkip) (mSeq (mSub 0 (mC (.int 4)) (mOp gAdd (mIxV 0 (mC (.int 4))) (mC (.int 1)))) (mSeq (mSub 0 (mC (.int 3)) (mOp gMod (mOp gAdd (mOp gAdd (mOp gPow (mIxV 0 (mC (.int 3))) (mC (.int 3))) (mOp gMulA (mC (.int 40487)) (mIxV 0 (mC (.int 4))))) (mC (.int 17))) (mC (.int 2147483629)))) (mRet (mOp gMod (mOp gFdv (mIxV 0 (mC (.int 3))) (mC (.int 11))) (mVar 1)))))))
def m_law_draw : MF := fnM 2 b_law_draw
def b_law_ways : ME -> MS := (mSeq (mSet 1 mNewT) (mSeq (mFor (mItL (mVar 0)) (tgTup 3 (tgCons (tgName 2) (tgCons (tgName 3) (tgCons (tgName 4) tgNil))))
 (mSeq (mPut 1 (mTup (mCons (mVar 2) (mCons (mVar 3) mNil))) (mVar 4)) (mSeq (mPut 1 (mTup (mCons (mVar 3) (mCons (mVar 4) mNil))) (mVar 2)) (mPut 1 (mTup (mCons (mVar 4) (mCons (mVar 2) mNil))) (mVar 3))))) (mRet (mVar 1))))
def m_law_ways : MF := fnM 4 b_law_ways
def b_following : ME -> MS := mFollow 0 1 (tgTup 3 (tgCons (tgName 2) (tgCons (tgName 3) (tgCons (tgName 4) tgNil)))) (mTup (mCons (mTup (mCons (mVar 2) (mCons (mVar 3) (mCons (mVar 4) mNil)))) (mCons (mTup (mCons (mVar 3) (mCons (mVar 4) (mCons (mVar 2) mNil)))) (mCons (mTup (mCons (mVar 4) (mCons (mVar 2) (mCons (mVar 3) mNil)))) mNil)))) (tgTup 3 (tgCons (tgName 5) (tgCons (tgName 6) (tgCons (tgName 7) tgNil)))) 5 6 7
def m_following : MF := fnM 7 b_following
def b_ring_of : ME -> MS := (mSeq (mSet 1 (mDcK (.dK [] []) (pVar 0) (tgName 5) mYes (mIxV 0 (mVar 5)) (mC (.bl true)) [5])) (mSeq (mSet 2 (mLcK (pVar 0) (tgName 6) (mTst (mInV gNotInA (mVar 6) 1)) (mVar 6) [6])) (mSeq (mIfS (mTst (mOp gEq (mVar 2) (mLst mNil)))
 (mSet 3 (mCall1 gMinL (mCallV gListB 0)))
 (mSet 3 (mCallV gMinL 2))) (mSeq (mSet 4 (mLst (mCons (mVar 3) mNil))) (mSeq (mWN (mAndB (mTst (mInV gInA (mIxV 4 (mNeg (mC (.int 1)))) 0)) (mTst (mOp gNe (mIxV 0 (mIxV 4 (mNeg (mC (.int 1))))) (mVar 3))))
 (mDrop (mApp 4 (mIxV 0 (mIxV 4 (mNeg (mC (.int 1))))))) 30) (mRet (mVarO 4)))))))
def m_ring_of : MF := fnM 6 b_ring_of
def b_pair_of : ME -> MS := mRet (mTup (mCons (mCall (g2 gMin2) (mCons (mVar 0) (mCons (mVar 1) mNil))) (mCons (mCall (g2 gMax2) (mCons (mVar 0) (mCons (mVar 1) mNil))) mNil)))
def m_pair_of : MF := fnM 0 b_pair_of
def b_thirds_of : ME -> MS := (mSeq (mSet 1 mNewT) (mSeq (mFor (mItL (mVar 0)) (tgTup 3 (tgCons (tgName 2) (tgCons (tgName 3) (tgCons (tgName 4) tgNil))))
 (mSeq (mPut 1 (mTup (mCons (mVar 2) (mCons (mVar 3) mNil))) (mVar 4)) (mSeq (mPut 1 (mTup (mCons (mVar 3) (mCons (mVar 4) mNil))) (mVar 2)) (mPut 1 (mTup (mCons (mVar 4) (mCons (mVar 2) mNil))) (mVar 3))))) (mRet (mVar 1))))
def m_thirds_of : MF := fnM 4 b_thirds_of
def b_Web_is_inner : ME -> MS := (mSeq (mAsg (tgTup 2 (tgCons (tgName 2) (tgCons (tgName 3) tgNil))) (mVar 1)) (mRet (mAndV (mOp gInA (mTup (mCons (mVar 2) (mCons (mVar 3) mNil))) (mFldV ctab_Web "third" 0)) (mOp gInA (mTup (mCons (mVar 3) (mCons (mVar 2) mNil))) (mFldV ctab_Web "third" 0)))))
def m_Web_is_inner : MF := fnM 2 b_Web_is_inner
def b_Web___init__ : ME -> MS := (mSeq (mFldS ctab_Web 0 "trios" (mVar 1)) (mSeq (mFldS ctab_Web 0 "third" (mFn m_thirds_of (mCons (mVar 1) mNil))) (mSeq (mFldS ctab_Web 0 "after" (mFn m_following (mCons (mVar 1) mNil))) (mSeq (mFldS ctab_Web 0 "pairs" (mSortScK (pFldV ctab_Web "third" 0) (tgTup 2 (tgCons (tgName 6) (tgCons (tgName 7) tgNil))) mYes (mFn m_pair_of (mCons (mVar 6) (mCons (mVar 7) mNil))) [6, 7])) (mSeq (mFldS ctab_Web 0 "told" (mDc (.dT [] []) (mItL (mFldV ctab_Web "pairs" 0)) (tgName 4) (mAndB (mTst (mInV gInA (mVar 4) 2)) (mTst (mMethV [("Web", m_Web_is_inner)] "is_inner" 0 (mCons (mVar 4) mNil)))) (mVar 4) (mC (.bl true)) [4])) (mFldS ctab_Web 0 "quick" (mDcK (.dK [] []) (pFldV ctab_Web "after" 0) (tgName 5) (mTst (mInV gInA (mVar 5) 3)) (mVar 5) (mC (.bl true)) [5])))))))
def m_Web___init__ : MF := fnM 4 b_Web___init__
def b_Web_ring : ME -> MS := mRet (mFn m_ring_of (mCons (mIx (mFldV ctab_Web "after" 0) (mVar 1)) mNil))
def m_Web_ring : MF := fnM 0 b_Web_ring
end Ck
namespace Ck
open PySem PySem.Spec Mp Cg
open PyProof.Rows hiding cutD
open L2 hiding way
theorem draw_eq : m_law_draw = m_draw := by kernel_rfl
def tD (t : Tri) : D := .tup [.int t.1, .int t.2.1, .int t.2.2]
abbrev fD (F : List Tri) : D := .lst (F.map tD)
def smN (m : Int) : Prop := 0 < m /\ m < 18446744073709551616
theorem box_wr (ns : List Int) : WR (m_law_box [.v (.scr (ns.map D.int))]) fun s _ => ∃ d, s = .own d /\ Bx d := by
 obtain ⟨cells, hc⟩ := cutD_map (ns := ns) (lo := none) (hi := some 63)
 refine ⟨.own (bxD cells 0 0 7 0), [.v (.scr (ns.map .int))], ?_, _, rfl, ⟨cells, 0, 0, 7, 0, rfl, by omega, by omega, by omega, by omega⟩⟩
 unfold m_law_box b_law_box
 (simp -implicitDefEqProofs only [Mp.fnM, Mp.mSeq, Mp.mIfS, Mp.mAndB, Mp.mOrB, Mp.mNotB, Mp.mAndV, Mp.mOrV, Mp.mNotV, Mp.mTst, Mp.mOp, Mp.mIxV, Mp.mIx, Mp.mVar, Mp.mC, Mp.mNeg, Mp.slotD, Mp.heldAt, Mp.putAt, Mp.frz, Mp.frzS, Mp.frzL, Mp.bnd, Mp.mSet, Mp.mSub, Mp.mRet, Mp.mRetN, Mp.mSkip, Mp.mDrop, Mp.mCall1, Mp.mCallV, Mp.mCall, Mp.mTup, Mp.mLst, Mp.mCons, Mp.mNil, Mp.mFn, Mp.mFnX, Mp.mIf, Mp.gMod_pos, Mp.gFdv_pos, Mp.gMul_l, Mp.gMul_r, Mp.gPow_s, Mp.gAdd_i, Mp.gSub_i, Mp.gLt_i, Mp.gLe_i, Mp.gGt_i, Mp.gGe_i, Mp.gIx_l, Mp.gIx_t, Mp.gIx_k, Mp.gLen_l, Mp.gLen_t, Mp.gLen_k, Mp.setD, List.getElem?_cons_zero, List.getElem?_cons_succ, List.set_cons_zero, List.set_cons_succ, Option.bind_some, Option.map_some, Option.bind_none, Option.map_none, List.length_cons, List.length_nil, List.length_map, List.map_cons, List.map_nil, decide_true, decide_false, if_true, if_false, Bool.false_eq_true, Bool.and_true, Bool.true_and, Bool.or_true, Bool.true_or, Bool.and_false, Bool.false_and, Bool.or_false, Bool.false_or, Bool.not_true, Bool.not_false, Mp.atI0, Mp.atI1, Mp.atI2, Mp.atI3, Mp.atI4, Mp.ixN1, Mp.ixN2, Mp.ixN3, Mp.ixN4, List.replicate, List.cons_append, List.nil_append, List.append_eq, Nat.zero_add, Nat.reduceAdd, Int.reduceLE, Int.reduceLT, Int.reduceNeg, Nat.reducePow, Nat.reduceLT, Int.reduceToNat, Nat.reduceLeDiff, mSlV, mPart, mNoPart, hc, gListB, gListA, gList])
 rfl
theorem draw_wr {d : D} {m : Int} (hd : Bx d) (hm : smN m) : WR (m_law_draw [.box d, .v (.int m)]) fun s x => ∃ r d' x', s = .v (.int r) /\ x = .box d' :: x' /\ 0 ≤ r /\ r < m /\ Bx d' := by
 obtain ⟨r, d', x, h0, h1, h2, e⟩ := draw_spec hd hm.1 hm.2
 rw [draw_eq]
 exact ⟨_, _, e, r, d', x, rfl, rfl, h0, h1, h2⟩
theorem draw_x {k : Nat} {ρ : ME} {d : D} {ms : ME -> ML} {Q : Slot -> ME -> Prop} (hk : heldAt ρ k = some d) (h : WL (ms ρ) fun ds ρ1 => ∃ m d1, ds = [.int m] /\ heldAt ρ1 k = some d1 /\ Bx d1 /\ smN m /\ ∀ r d', 0 ≤ r -> r < m -> Bx d' -> Q (.v (.int r)) (putAt ρ1 k d')) : WR (mFnX m_law_draw k ms ρ) Q := by
 refine wr_fnX hk ?_
 obtain ⟨ds, ρ1, e, m, d1, rfl, e1, b1, hm, q⟩ := h
 refine ⟨_, ρ1, e, d1, e1, ?_⟩
 refine (draw_wr b1 hm).mono ?_
 rintro s x ⟨r, d', x', rfl, rfl, h0, h1, h2⟩
 exact ⟨⟨_, rfl⟩, d', x', rfl, q r d' h0 h1 h2⟩
theorem hasK_mem {κ : Type} [DecidableEq κ] {k : κ} : ∀ {ks : List κ}, hasK k ks = true ↔ k ∈ ks
 | [] => by simp [hasK]
 | n :: ns => by
  unfold hasK
  by_cases h : n = k
  ·simp [h]
  ·rw [if_neg h, hasK_mem]
   simp [Ne.symm h]
theorem hasK_no {κ : Type} [DecidableEq κ] {k : κ} {ks : List κ} (h : k ∉ ks) : hasK k ks = false := by
 cases e : hasK k ks with
 | false => rfl
 | true => exact absurd (hasK_mem.mp e) h
theorem valD_find {α κ : Type} [DecidableEq κ] (kf : α -> κ) (vf : α -> D) (k : κ) : ∀ L : List α, valD (L.map kf) (L.map vf) k = (L.find? fun x => decide (kf x = k)).map vf
 | [] => rfl
 | x :: L => by
  show (if kf x = k then some (vf x) else valD (L.map kf) (L.map vf) k) = _
  rw [List.find?_cons]
  by_cases h : kf x = k
  ·rw [if_pos h, decide_eq_true h]; rfl
  ·rw [if_neg h, decide_eq_false h, valD_find kf vf k L]
theorem valD_in {α κ : Type} [DecidableEq κ] (kf : α -> κ) (vf : α -> D) {L : List α} {x : α} (nd : (L.map kf).Nodup) (h : x ∈ L) : valD (L.map kf) (L.map vf) (kf x) = some (vf x) := by
 rw [valD_find]
 induction L with
 | nil => cases h
 | cons y L ih =>
  rw [List.map_cons, List.nodup_cons] at nd
  rw [List.find?_cons]
  rcases List.mem_cons.mp h with e | e
  ·subst e
   rw [decide_eq_true rfl]; rfl
  ·have : kf y ≠ kf x := fun z => nd.1 (by rw [z]; exact List.mem_map.mpr ⟨x, e, rfl⟩)
   rw [decide_eq_false this]
   exact ih nd.2 e
theorem valD_is {α κ : Type} [DecidableEq κ] (kf : α -> κ) (vf : α -> D) {L : List α} {k : κ} : (valD (L.map kf) (L.map vf) k).isSome = true ↔ k ∈ L.map kf := by
 rw [valD_find, Option.isSome_map, List.find?_isSome, List.mem_map]
 constructor
 ·rintro ⟨x, hx, e⟩; exact ⟨x, hx, by simpa using e⟩
 ·rintro ⟨x, hx, e⟩; exact ⟨x, hx, by simpa using e⟩
def wk (t : Tri) : List Key := [.inl t.1, .inl t.2.1]
@[irreducible] def waysD (S : List Tri) : D := .dT (S.map wk) (S.map fun t => .int t.2.2)
theorem wk_mem {S : List Tri} {a b : Int} : [Sum.inl a, Sum.inl b] ∈ S.map wk ↔ (a, b) ∈ S.map way := by
 rw [List.mem_map, List.mem_map]
 constructor
 ·rintro ⟨t, ht, e⟩
  refine ⟨t, ht, ?_⟩
  simp only [wk, List.cons.injEq, Sum.inl.injEq, and_true] at e
  simp only [way, e.1, e.2]
 ·rintro ⟨t, ht, e⟩
  refine ⟨t, ht, ?_⟩
  simp only [way, Prod.mk.injEq] at e
  simp only [wk, e.1, e.2]
theorem wk_nd {S : List Tri} (h : (S.map way).Nodup) : (S.map wk).Nodup := by
 induction S with
 | nil => exact List.nodup_nil
 | cons t S ih =>
  rw [List.map_cons, List.nodup_cons] at h ⊢
  exact ⟨fun z => h.1 (wk_mem.mp z), ih h.2⟩
theorem ways_put {S : List Tri} {a b c : Int} (h : (a, b) ∉ S.map way) (hl : S.length < 900000) : putD (waysD S) (.tup [.int a, .int b]) (.int c) = some (waysD (S ++ [(a, b, c)])) := by
 have e : hasK [Sum.inl a, Sum.inl b] (S.map wk) = false := hasK_no fun z => h (wk_mem.mp z)
 unfold waysD
 show (if (S.map wk).length < 900000 then some (D.dT (putKs [Sum.inl a, Sum.inl b] (S.map wk)) (putVs [Sum.inl a, Sum.inl b] (.int c) (S.map wk) (S.map fun t => D.int t.2.2))) else none) = _
 rw [if_pos (by simpa using hl)]
 unfold putKs putVs
 rw [e, List.map_append, List.map_append]
 rfl
theorem ways_at {S : List Tri} {t : Tri} (nd : (S.map way).Nodup) (h : t ∈ S) : gIx (waysD S) (.tup [.int t.1, .int t.2.1]) = some (.int t.2.2) := by
 unfold waysD
 exact valD_in wk (fun t => D.int t.2.2) (wk_nd nd) h
theorem ways_in (S : List Tri) (a b : Int) : inA (.tup [.int a, .int b]) (waysD S) = some (decide ((a, b) ∈ S.map way)) := by
 unfold waysD
 show some (valD (S.map wk) (S.map fun t => D.int t.2.2) [Sum.inl a, Sum.inl b]).isSome = _
 congr 1
 rw [Bool.eq_iff_iff, valD_is, wk_mem]
 simp
theorem ways_gIn (S : List Tri) (a b : Int) : gInA (.tup [.int a, .int b]) (waysD S) = some (.v (.bl (decide ((a, b) ∈ S.map way)))) := by unfold gInA; rw [ways_in]; rfl
theorem spokes_take {F : List Tri} {i : Nat} (h : i < F.length) : spokes (F.take (i + 1)) = spokes (F.take i) ++ spk F[i] := by
 rw [List.take_succ_eq_append_getElem h, spokes_app]
 unfold spokes
 simp
theorem spokes_sub {F : List Tri} (i : Nat) : (spokes (F.take i)).Sublist (spokes F) := by
 have : spokes F = spokes (F.take i) ++ spokes (F.drop i) := by rw [<- spokes_app, List.take_append_drop]
 rw [this]
 exact List.sublist_append_left _ _
theorem spokes_len (F : List Tri) : (spokes F).length = 3 * F.length := by
 induction F with
 | nil => rfl
 | cons t F ih => rw [spokes_cons, List.length_append, ih]; simp [spk]; omega
theorem ways_wr {F : List Tri} (nd : ((spokes F).map way).Nodup) (hl : F.length < 100000) : WR (m_law_ways [.v (fD F)]) fun s _ => s = .v (waysD (spokes F)) := by
 unfold m_law_ways b_law_ways
 (refine wr_fnM ?_; refine ws_seq ?_; refine ws_set1 ?_; refine wr_newT ?_; (refine ⟨rfl, ?_⟩); refine ws_seq ?_; refine ws_for ?_; refine wi_lst ?_; refine wr_v rfl ?_; refine ⟨_, dat_v, ?_⟩; refine ex_lst ?_)
 refine ws_loop (fun i ρ => ∃ x2 x3 x4, ρ = [.v (fD F), .own (waysD (spokes (F.take i))), x2, x3, x4]) ⟨.no, .no, .no, by unfold waysD; rfl⟩ ?_ ?_
 ·rintro i hi ρ ⟨x2, x3, x4, rfl⟩
  have hi' : i < F.length := by simpa using hi
  have hn : (((spokes (F.take i)) ++ spk F[i]).map way).Nodup := by
   rw [<- spokes_take hi']
   exact nd.sublist ((spokes_sub (i + 1)).map way)
  have hsl : (spokes (F.take i)).length < 300000 := by rw [spokes_len, List.length_take]; omega
  rw [List.getElem_map]
  rcases hF : F[i] with ⟨a, b, c⟩
  refine ⟨_, rfl, ?_⟩
  have e3 : spokes (F.take (i + 1)) = spokes (F.take i) ++ [(a, b, c)] ++ [(b, c, a)] ++ [(c, a, b)] := by
   rw [spokes_take hi', hF]; simp [spk, rt]
  rw [hF] at hn
  have hn2 : ((a, b) ∉ (spokes (F.take i)).map way) /\ ((b, c) ∉ (spokes (F.take i) ++ [(a, b, c)]).map way) /\ ((c, a) ∉ (spokes (F.take i) ++ [(a, b, c)] ++ [(b, c, a)]).map way) := by
   simp only [spk, rt, List.map_append, List.map_cons, List.map_nil, way, List.nodup_append, List.nodup_cons, List.mem_cons, List.not_mem_nil, or_false, not_or] at hn
   obtain ⟨h1, ⟨⟨h2, h3⟩, h4, h5, h6⟩, h7⟩ := hn
   simp only [List.map_append, List.mem_append, List.map_cons, List.map_nil, way, List.mem_cons, List.not_mem_nil, or_false, not_or]
   refine ⟨fun z => h7 _ z _ (.inl rfl) rfl, ⟨fun z => h7 _ z _ (.inr (.inl rfl)) rfl, fun z => h2 z.symm⟩, ⟨⟨fun z => h7 _ z _ (.inr (.inr rfl)) rfl, fun z => h3 z.symm⟩, fun z => h4 z.symm⟩⟩
  (refine ws_seq ?_; refine ws_put ?_; refine wr_v rfl ?_; refine ⟨_, dat_v, ?_⟩; refine ex_held rfl ?_; refine wr_tup ?_; refine wl_cons ?_; refine wr_v rfl ?_; refine ⟨_, dat_v, ?_⟩; refine wl_cons ?_; refine wr_v rfl ?_; refine ⟨_, dat_v, ?_⟩; refine wl_nil ?_; refine ⟨_, dat_v, ?_⟩)
  refine ⟨_, _, rfl, ways_put hn2.1 (by omega), ?_⟩
  (refine ws_seq ?_; refine ws_put ?_; refine wr_v rfl ?_; refine ⟨_, dat_v, ?_⟩; refine ex_held rfl ?_; refine wr_tup ?_; refine wl_cons ?_; refine wr_v rfl ?_; refine ⟨_, dat_v, ?_⟩; refine wl_cons ?_; refine wr_v rfl ?_; refine ⟨_, dat_v, ?_⟩; refine wl_nil ?_; refine ⟨_, dat_v, ?_⟩)
  refine ⟨_, _, rfl, ways_put hn2.2.1 (by simp; omega), ?_⟩
  (refine ws_put ?_; refine wr_v rfl ?_; refine ⟨_, dat_v, ?_⟩; refine ex_held rfl ?_; refine wr_tup ?_; refine wl_cons ?_; refine wr_v rfl ?_; refine ⟨_, dat_v, ?_⟩; refine wl_cons ?_; refine wr_v rfl ?_; refine ⟨_, dat_v, ?_⟩; refine wl_nil ?_; refine ⟨_, dat_v, ?_⟩)
  refine ⟨_, _, rfl, ways_put hn2.2.2 (by simp; omega), ?_⟩
  rw [e3]
  exact ⟨_, _, _, rfl⟩
 ·rintro ρ ⟨x2, x3, x4, rfl⟩
  (refine ws_ret ?_; refine wr_o rfl ?_)
  simp
def RimAt (S : List Tri) (v : Int) : Prop := ∃ t ∈ S, (t.1 = v \/ t.2.1 = v) /\ (t.2.1, t.1) ∉ S.map way
theorem ix_nat {ds : List D} {k : Nat} (h : k < ds.length) : gIx (.lst ds) (.int (k : Nat)) = some ds[k] := by
 rw [gIx_l, atI_nat (List.getElem?_eq_getElem h)]
theorem ints_map : ∀ ns : List Int, ints? (ns.map D.int) = some ns
 | [] => rfl
 | n :: ns => by rw [List.map_cons, ints?, ints_map ns]; rfl
theorem maxI_some : ∀ {ns : List Int}, ns ≠ [] -> ∃ m, maxI ns = some m
 | [], h => absurd rfl h
 | n :: ns, _ => by
  unfold maxI
  split <;> exact ⟨_, rfl⟩
theorem cut_to {α : Type} {f : α -> D} {L : List α} {i : Nat} (h : i ≤ L.length) : cutD (L.map f) none (some (i : Nat)) = (L.take i).map f := by
 unfold cutD
 rw [HT.sIx_none, HT.sIx_nat, List.length_map, Nat.min_eq_left h]
 simp [List.map_take]
theorem cut_from {α : Type} {f : α -> D} {L : List α} {i : Nat} (h : i ≤ L.length) : cutD (L.map f) (some (i : Nat)) none = (L.drop i).map f := by
 unfold cutD
 rw [HT.sIx_none, HT.sIx_nat, List.length_map, Nat.min_eq_left h, <- List.map_drop]
 rw [List.take_of_length_le (by simp)]
theorem size_big : 100000 ≤ sizeLine := by decide
theorem gAdd_l {xs ys : List D} (h : xs.length + ys.length ≤ 100000) : gAdd (.lst xs) (.lst ys) = some (.own (.lst (xs ++ ys))) := by
 have := size_big
 show (if xs.length + ys.length ≤ sizeLine then some (Slot.own (.lst (xs ++ ys))) else none) = _
 rw [if_pos (by omega)]
theorem gAdd_t {xs ys : List D} (h : xs.length + ys.length ≤ 100000) : gAdd (.tup xs) (.tup ys) = some (.v (.tup (xs ++ ys))) := by
 have := size_big
 show (if xs.length + ys.length ≤ sizeLine then some (Slot.v (.tup (xs ++ ys))) else none) = _
 rw [if_pos (by omega)]
theorem splitF_len {F : List Tri} {i : Nat} (hi : i < F.length) {a b c n : Int} : (splitF F i a b c n).length = F.length + 2 := by
 unfold splitF
 simp only [List.length_append, List.length_take, List.length_drop, List.length_cons, List.length_nil]
 omega
abbrev Slot := Mp.Slot
theorem ws_cut {s t : ME -> MS} {ρ : ME} {QS : Fl -> Prop} (R : ME -> Prop) (h1 : WS (s ρ) fun f => ∃ ρ1, f = .nx ρ1 /\ R ρ1) (h2 : ∀ ρ1, R ρ1 -> WS (t ρ1) QS) : WS (mSeq s t ρ) QS :=
 ws_seq (h1.mono fun f ⟨ρ1, e, r⟩ => by subst e; exact h2 ρ1 r)
def InP (m : Int) (p : Tri) : Prop := (-m ≤ p.1 /\ p.1 ≤ m) /\ (-m ≤ p.2.1 /\ p.2.1 ≤ m) /\ (-m ≤ p.2.2 /\ p.2.2 ≤ m)
def innerL (W : List (Int × Int)) (S : List Tri) : List (Int × Int) := (S.filter fun t => decide (t.1 < t.2.1 /\ (t.2.1, t.1) ∈ W)).map way
def sideL (F : List Tri) : List (Int × Int) := sortP (innerL ((spokes F).map way) (spokes F))
structure Drawn (P F : List Tri) (E : List (Int × Int)) (Q : List Int) (n : Nat) : Prop where
 fine : Fine F n
 plen : P.length = n
 pin : ∀ p ∈ P, InP 1000 p
 sub : E.Sublist (sideL F)
 qsub : Q.Sublist (up n)
def ki (p : Int × Int) : Key := .inl p.1
def vi (p : Int × Int) : D := .int p.2
@[irreducible] def afD (L : List (Int × Int)) : D := .dK (L.map ki) (L.map vi)
structure NestOk (S : List Tri) (N : NC) : Prop where
 keys : ∃ KL : List Int, N.map (·.1) = KL.map .inl /\ KL.Nodup /\ ∀ v, v ∈ KL ↔ ∃ t ∈ S, t.1 = v
 inn : ∀ n ∈ N, ∃ v : Int, n.1 = .inl v /\ n.2.1 = (lnk v S).map ki /\ n.2.2 = (lnk v S).map vi
theorem NestOk.nil : NestOk [] [] := ⟨⟨[], rfl, List.nodup_nil, by simp⟩, by simp⟩
theorem lnk_snoc (v a b c : Int) (S : List Tri) : lnk v (S ++ [(a, b, c)]) = lnk v S ++ if a = v then [(b, c)] else [] := by
 rw [lnk_app]
 by_cases h : a = v
 ·subst h; rw [lnk_yes, if_pos rfl]; rfl
 ·rw [lnk_no h, if_neg h]; rfl
theorem inl_mem {k : Int} {ks : List Int} : (Sum.inl k : Key) ∈ ks.map Sum.inl ↔ k ∈ ks := by
 rw [List.mem_map]
 constructor
 ·rintro ⟨x, hx, e⟩; cases e; exact hx
 ·intro h; exact ⟨k, h, rfl⟩
theorem NestOk.put {S : List Tri} {N : NC} (h : NestOk S N) {a b c : Int} (hn : (a, b) ∉ S.map way) : NestOk (S ++ [(a, b, c)]) (putN N (.inl a) (.inl b) (.int c)) := by
 obtain ⟨KL, k1, k2, k3⟩ := h.keys
 have hb : hasK (Sum.inl b : Key) ((lnk a S).map ki) = false := hasK_no fun z => by
  obtain ⟨p, hp, e⟩ := List.mem_map.mp z
  have e : p.1 = b := by simpa [ki] using e
  exact hn (List.mem_map.mpr ⟨_, mem_lnk.mp hp, by simp [way, e]⟩)
 unfold putN
 by_cases ha : a ∈ KL
 ·have hk : hasK (Sum.inl a : Key) (N.map (·.1)) = true := by rw [k1]; exact hasK_mem.mpr (inl_mem.mpr ha)
  rw [if_pos hk]
  refine ⟨⟨KL, ?_, k2, fun v => ?_⟩, fun n hm => ?_⟩
  ·rw [List.map_map, <- k1]
   refine List.map_congr_left fun n _ => ?_
   simp only [Function.comp]
   split <;> rfl
  ·rw [k3]
   constructor
   ·rintro ⟨t, ht, e⟩; exact ⟨t, List.mem_append_left _ ht, e⟩
   ·rintro ⟨t, ht, e⟩
    rcases List.mem_append.mp ht with z | z
    ·exact ⟨t, z, e⟩
    ·rw [List.mem_singleton] at z
     subst z
     rw [<- e]
     exact (k3 _).mp ha
  ·obtain ⟨m, hm2, e⟩ := List.mem_map.mp hm
   obtain ⟨v, e1, e2, e3⟩ := h.inn m hm2
   refine ⟨v, ?_⟩
   by_cases hv : m.1 = .inl a
   ·have hva : v = a := by rw [e1] at hv; exact Sum.inl.inj hv
    subst hva
    rw [if_pos hv] at e
    subst e
    refine ⟨e1, ?_, ?_⟩
    ·dsimp only
     rw [e2, lnk_snoc, if_pos rfl, List.map_append]
     unfold putKs
     rw [hb]; rfl
    ·dsimp only
     rw [e2, e3, lnk_snoc, if_pos rfl, List.map_append]
     unfold putVs
     rw [hb]; rfl
   ·rw [if_neg hv] at e
    subst e
    have hva : ¬ a = v := fun z => hv (by rw [e1, z])
    rw [lnk_snoc, if_neg hva, List.append_nil]
    exact ⟨e1, e2, e3⟩
 ·have hk : hasK (Sum.inl a : Key) (N.map (·.1)) = false := by rw [k1]; exact hasK_no fun z => ha (inl_mem.mp z)
  rw [if_neg (by rw [hk]; simp)]
  have e0 : lnk a S = [] := List.eq_nil_iff_forall_not_mem.mpr fun p hp => ha ((k3 a).mpr ⟨_, mem_lnk.mp hp, rfl⟩)
  refine ⟨⟨KL ++ [a], by rw [List.map_append, List.map_append, k1]; rfl, ?_, fun v => ?_⟩, fun n hm => ?_⟩
  ·rw [List.nodup_append]
   exact ⟨k2, by simp, fun x hx y hy e => ha (by rw [<- List.mem_singleton.mp hy, <- e]; exact hx)⟩
  ·rw [List.mem_append, List.mem_singleton, k3]
   constructor
   ·rintro (⟨t, ht, e⟩ | e)
    ·exact ⟨t, List.mem_append_left _ ht, e⟩
    ·exact ⟨_, List.mem_append_right _ (List.mem_singleton.mpr rfl), e.symm⟩
   ·rintro ⟨t, ht, e⟩
    rcases List.mem_append.mp ht with z | z
    ·exact .inl ⟨t, z, e⟩
    ·rw [List.mem_singleton] at z
     subst z
     exact .inr e.symm
  ·rcases List.mem_append.mp hm with z | z
   ·obtain ⟨v, e1, e2, e3⟩ := h.inn n z
    have hva : ¬ a = v := fun q => ha (by
     have : n.1 ∈ N.map (·.1) := List.mem_map.mpr ⟨n, z, rfl⟩
     rw [k1, e1, <- q] at this
     exact inl_mem.mp this)
    exact ⟨v, e1, by rw [lnk_snoc, if_neg hva, List.append_nil]; exact e2, by rw [lnk_snoc, if_neg hva, List.append_nil]; exact e3⟩
   ·rw [List.mem_singleton] at z
    subst z
    refine ⟨a, rfl, ?_, ?_⟩ <;> rw [lnk_snoc, e0, if_pos rfl] <;> rfl
theorem lnk_len (v : Int) (S : List Tri) : (lnk v S).length ≤ S.length := List.length_filterMap_le _ _
theorem NestOk.small {S : List Tri} {N : NC} (h : NestOk S N) (hl : S.length < 900000) : nestSmall N = true := by
 obtain ⟨KL, k1, k2, k3⟩ := h.keys
 unfold nestSmall
 have e1 : N.length ≤ S.length := by
  have : N.length = KL.length := by have := congrArg List.length k1; simpa using this
  rw [this, <- List.length_map (f := fun t : Tri => t.1) (as := S)]
  exact nodup_le k2 fun v hv => by
   obtain ⟨t, ht, e⟩ := (k3 v).mp hv
   exact List.mem_map.mpr ⟨t, ht, e⟩
 rw [decide_eq_true (by omega), Bool.true_and, List.all_eq_true]
 intro n hn
 obtain ⟨v, _, e2, _⟩ := h.inn n hn
 rw [decide_eq_true_eq, e2, List.length_map]
 have := lnk_len v S
 omega
@[irreducible] def aftD (N : NC) : D := nestD N
theorem aft_at {S : List Tri} {N : NC} (h : NestOk S N) {v : Int} (hv : ∃ t ∈ S, t.1 = v) : gIx (aftD N) (.int v) = some (afD (lnk v S)) := by
 obtain ⟨KL, k1, k2, k3⟩ := h.keys
 have hm : (Sum.inl v : Key) ∈ N.map (·.1) := by rw [k1]; exact inl_mem.mpr ((k3 v).mpr hv)
 obtain ⟨n, hn, e⟩ := List.mem_map.mp hm
 have nd : (N.map (·.1)).Nodup := by
  rw [k1, List.nodup_iff_pairwise_ne, List.pairwise_map]
  exact (List.nodup_iff_pairwise_ne.mp k2).imp fun h e => h (Sum.inl.inj e)
 obtain ⟨u, e1, e2, e3⟩ := h.inn n hn
 have : u = v := by rw [e1] at e; exact Sum.inl.inj e
 subst this
 unfold aftD
 have q := valD_in (fun n : Key × List Key × List D => n.1) (fun n => D.dK n.2.1 n.2.2) nd hn
 rw [e] at q
 show valD (N.map (·.1)) (N.map fun n => D.dK n.2.1 n.2.2) (Sum.inl u) = _
 rw [q, e2, e3]
 unfold afD
 rfl
abbrev fT1 : MT := tgTup 3 (tgCons (tgName 2) (tgCons (tgName 3) (tgCons (tgName 4) tgNil)))
abbrev fM2 : ME -> MR := mTup (mCons (mTup (mCons (mVar 2) (mCons (mVar 3) (mCons (mVar 4) mNil)))) (mCons (mTup (mCons (mVar 3) (mCons (mVar 4) (mCons (mVar 2) mNil)))) (mCons (mTup (mCons (mVar 4) (mCons (mVar 2) (mCons (mVar 3) mNil)))) mNil)))
abbrev fT2 : MT := tgTup 3 (tgCons (tgName 5) (tgCons (tgName 6) (tgCons (tgName 7) tgNil)))
theorem folI_step {a b c : Int} {es : List D} {x0 x1 x2 x3 x4 x5 x6 x7 : Slot} {N : NC} (hs : nestSmall N = true) : folI fT2 5 6 7 (tD (a, b, c) :: es) [x0, x1, x2, x3, x4, x5, x6, x7] N = folI fT2 5 6 7 es [x0, x1, x2, x3, x4, .v (.int a), .v (.int b), .v (.int c)] (putN N (.inl a) (.inl b) (.int c)) := by
 show (if nestSmall N then _ else none) = _
 rw [if_pos hs]
 rfl
theorem folO_go {x0 x1 : Slot} : ∀ (F : List Tri) (S : List Tri) (N : NC) (x2 x3 x4 x5 x6 x7 : Slot), NestOk S N -> ((S ++ spokes F).map way).Nodup -> S.length + 3 * F.length < 900000 -> ∃ N' ρ', folO fT1 fM2 fT2 5 6 7 (F.map tD) [x0, x1, x2, x3, x4, x5, x6, x7] N = some (ρ', N') /\ NestOk (S ++ spokes F) N'
  | [], S, N, x2, x3, x4, x5, x6, x7, h, _, _ => ⟨N, _, rfl, by simpa [spokes] using h⟩
  | (a, b, c) :: F, S, N, x2, x3, x4, x5, x6, x7, h, nd, hl => by
    have e : S ++ spokes ((a, b, c) :: F) = S ++ [(a, b, c)] ++ [(b, c, a)] ++ [(c, a, b)] ++ spokes F := by
      rw [spokes_cons]; simp [spk, rt]
    rw [e] at nd
    have nd1 : ∀ {T U : List Tri} {x y z : Int}, ((T ++ [(x, y, z)] ++ U).map way).Nodup -> (x, y) ∉ T.map way := by
      intro T U x y z nd hm
      rw [List.append_assoc, List.map_append, List.nodup_append] at nd
      exact nd.2.2 _ hm (x, y) (by simp [way]) rfl
    have n1 : (a, b) ∉ S.map way := nd1 (U := [(b, c, a)] ++ [(c, a, b)] ++ spokes F) (by simpa using nd)
    have n2 : (b, c) ∉ (S ++ [(a, b, c)]).map way := nd1 (U := [(c, a, b)] ++ spokes F) (by simpa using nd)
    have n3 : (c, a) ∉ (S ++ [(a, b, c)] ++ [(b, c, a)]).map way := nd1 (U := spokes F) (by simpa using nd)
    have h1 := h.put (c := c) n1
    have h2 := h1.put (c := a) n2
    have h3 := h2.put (c := b) n3
    simp only [List.length_cons] at hl
    have s0 := h.small (by omega)
    have s1 := h1.small (by simp; omega)
    have s2 := h2.small (by simp; omega)
    obtain ⟨N', ρ', e2, h4⟩ := folO_go F _ _ (.v (.int a)) (.v (.int b)) (.v (.int c)) (.v (.int c)) (.v (.int a)) (.v (.int b)) h3 nd (by simp; omega)
    refine ⟨N', ρ', ?_, by rw [e]; exact h4⟩
    have e3 : folI fT2 5 6 7 [tD (a, b, c), tD (b, c, a), tD (c, a, b)] [x0, x1, .v (.int a), .v (.int b), .v (.int c), x5, x6, x7] N = some ([x0, x1, .v (.int a), .v (.int b), .v (.int c), .v (.int c), .v (.int a), .v (.int b)], putN (putN (putN N (.inl a) (.inl b) (.int c)) (.inl b) (.inl c) (.int a)) (.inl c) (.inl a) (.int b)) := by
      rw [folI_step s0, folI_step s1, folI_step s2]
      rfl
    show (match folI fT2 5 6 7 [tD (a, b, c), tD (b, c, a), tD (c, a, b)] [x0, x1, .v (.int a), .v (.int b), .v (.int c), x5, x6, x7] N with
        | some (ρ3, N') => folO fT1 fM2 fT2 5 6 7 (F.map tD) ρ3 N'
        | none => none) = _
    rw [e3]
    exact e2
theorem following_wr {F : List Tri} (nd : ((spokes F).map way).Nodup) (hl : F.length < 100000) : WR (m_following [.v (fD F)]) fun s _ => ∃ N, s = .v (aftD N) /\ NestOk (spokes F) N := by
 obtain ⟨N, ρ', e, h⟩ := folO_go (x0 := .v (fD F)) (x1 := .no) F [] [] .no .no .no .no .no .no NestOk.nil (by simpa using nd) (by simp; omega)
 refine ⟨.v (aftD N), ρ', ?_, N, rfl, by simpa using h⟩
 have e2 : b_following [.v (fD F), .no, .no, .no, .no, .no, .no, .no] = .ok (.rt (.v (nestD N)) ρ') := by
  unfold b_following mFollow
  rw [if_pos (by simp)]
  show (match folO fT1 fM2 fT2 5 6 7 (F.map tD) [.v (fD F), .no, .no, .no, .no, .no, .no, .no] [] with
   | some (ρ', N) => _
   | none => _) = _
  rw [e]
 unfold m_following aftD
 show (match b_following [.v (fD F), .no, .no, .no, .no, .no, .no, .no] with | .ok (.rt s ρ) => _ | .ok (.nx ρ) => _ | .err c ρ => _ | _ => _) = _
 rw [e2]
theorem af_keys (L : List (Int × Int)) : keysD (afD L) = some ((L.map (·.1)).map D.int) := by
 unfold afD
 show some ((L.map ki).map kD) = _
 rw [List.map_map, List.map_map]
 rfl
theorem af_list (L : List (Int × Int)) : gListB (afD L) = some (.own (.lst ((L.map (·.1)).map D.int))) := by
 unfold afD
 show some (Slot.own (.lst ((L.map ki).map kD))) = _
 rw [List.map_map, List.map_map]
 rfl
theorem ki_find (L : List (Int × Int)) (x : Int) : valD (L.map ki) (L.map vi) (Sum.inl x) = (nxt L x).map D.int := by
 rw [valD_find]
 unfold nxt
 have : (fun p => decide (ki p = Sum.inl x)) = fun p : Int × Int => p.1 == x := by
  funext p
  rw [Bool.eq_iff_iff]
  simp [ki]
 rw [this, Option.map_map]
 rfl
theorem af_at {L : List (Int × Int)} {x y : Int} (h : nxt L x = some y) : gIx (afD L) (.int x) = some (.int y) := by
 unfold afD
 show valD (L.map ki) (L.map vi) (Sum.inl x) = _
 rw [ki_find, h]; rfl
@[irreducible] def bhD (ns : List Int) : D := .dK (ns.map .inl) (ns.map fun _ => .bl true)
theorem bh_in (ns : List Int) (x : Int) : inA (.int x) (bhD ns) = some (decide (x ∈ ns)) := by
 unfold bhD
 show some (valD (ns.map (Sum.inl : Int -> Key)) (ns.map fun _ => D.bl true) (Sum.inl x)).isSome = _
 congr 1
 rw [Bool.eq_iff_iff, valD_is, inl_mem, decide_eq_true_eq]
theorem bh_gIn (ns : List Int) (x : Int) : gInA (.int x) (bhD ns) = some (.v (.bl (decide (x ∈ ns)))) := by unfold gInA; rw [bh_in]; rfl
theorem bh_put {ns : List Int} {x : Int} (h : x ∉ ns) (hl : ns.length < 900000) : putD (bhD ns) (.int x) (.bl true) = some (bhD (ns ++ [x])) := by
 have e : hasK (Sum.inl x : Key) (ns.map .inl) = false := hasK_no fun z => h (inl_mem.mp z)
 unfold bhD
 show (if (ns.map (Sum.inl : Int -> Key)).length < 900000 then some (D.dK (putKs (Sum.inl x) (ns.map .inl)) (putVs (Sum.inl x) (.bl true) (ns.map .inl) (ns.map fun _ => D.bl true))) else none) = _
 rw [if_pos (by simpa using hl)]
 unfold putKs putVs
 rw [e, List.map_append, List.map_append]
 rfl
theorem VS.has {S : List Tri} {n v : Int} (h : VS S n) : (∃ t ∈ S, t.1 = v) ↔ 0 ≤ v /\ v < n := by
 constructor
 ·rintro ⟨t, ht, rfl⟩; exact h.rng t ht
 ·rintro ⟨h0, h1⟩
  obtain ⟨r, cl, hr⟩ := h.row v h0 h1
  obtain ⟨x, q, hq, _, _⟩ := hr.ring
  obtain ⟨p, hp, _⟩ := List.mem_map.mp hq.mem_fst
  exact ⟨_, mem_lnk.mp hp, rfl⟩
theorem sortU_len {ns r : List Int} (h : ∀ x ∈ ns, x ∈ r) : (sortU ns).length ≤ r.length := by
 refine nodup_le ?_ fun x hx => h x (sortU_mem.mp hx)
 rw [List.nodup_iff_pairwise_ne]
 exact (sortU_rises ns).imp fun h => by omega
def pk (p : IP) : List Key := [.inl p.1, .inl p.2]
@[irreducible] def tolD (T : List IP) : D := .dT (T.map pk) (T.map fun _ => .bl true)
theorem pk_mem {T : List IP} {a b : Int} : [Sum.inl a, Sum.inl b] ∈ T.map pk ↔ (a, b) ∈ T := by
 rw [List.mem_map]
 constructor
 ·rintro ⟨t, ht, e⟩
  simp only [pk, List.cons.injEq, Sum.inl.injEq, and_true] at e
  rw [<- e.1, <- e.2]; exact ht
 ·intro h; exact ⟨_, h, rfl⟩
def addU (T : List IP) (p : IP) : List IP := if p ∈ T then T else T ++ [p]
theorem addU_mem {T : List IP} {p x : IP} : x ∈ addU T p ↔ x ∈ T \/ x = p := by
 unfold addU
 split
 ·rename_i h
  constructor
  ·exact .inl
  ·rintro (h | rfl) <;> assumption
 ·rw [List.mem_append, List.mem_singleton]
theorem addU_nd {T : List IP} {p : IP} (h : T.Nodup) : (addU T p).Nodup := by
 unfold addU
 split
 ·exact h
 ·rename_i hn
  rw [List.nodup_append]
  exact ⟨h, by simp, fun x hx y hy e => hn (by rw [<- List.mem_singleton.mp hy, <- e]; exact hx)⟩
theorem repV_same {κ : Type} [DecidableEq κ] (k : κ) (d : D) : ∀ ks : List κ, repV k d ks (ks.map fun _ => d) = ks.map fun _ => d
 | [] => rfl
 | n :: ks => by
  show (if n = k then d else d) :: repV k d ks (ks.map fun _ => d) = _
  rw [repV_same k d ks]
  split <;> rfl
theorem tol_put (T : List IP) (p : IP) (hl : T.length < 900000) : putD (tolD T) (pD p) (.bl true) = some (tolD (addU T p)) := by
 unfold tolD
 show (if (T.map pk).length < 900000 then some (D.dT (putKs [Sum.inl p.1, Sum.inl p.2] (T.map pk)) (putVs [Sum.inl p.1, Sum.inl p.2] (.bl true) (T.map pk) (T.map fun _ => D.bl true))) else none) = _
 rw [if_pos (by simpa using hl)]
 unfold putKs putVs addU
 by_cases h : p ∈ T
 ·have : hasK [Sum.inl p.1, Sum.inl p.2] (T.map pk) = true := hasK_mem.mpr (pk_mem.mpr h)
  rw [this, if_pos rfl, if_pos rfl, if_pos h]
  have e : (T.map fun _ => D.bl true) = (T.map pk).map fun _ => D.bl true := by rw [List.map_map]; rfl
  rw [e, repV_same]
 ·have : hasK [Sum.inl p.1, Sum.inl p.2] (T.map pk) = false := hasK_no fun z => h (pk_mem.mp z)
  rw [this, if_neg (by simp), if_neg (by simp), if_neg h, List.map_append, List.map_append]
  rfl
theorem tol_gIn (T : List IP) (p : IP) : gInA (pD p) (tolD T) = some (.v (.bl (decide (p ∈ T)))) := by
 unfold tolD
 show (some (valD (T.map pk) (T.map fun _ => D.bl true) [Sum.inl p.1, Sum.inl p.2]).isSome).map _ = _
 rw [Option.map_some]
 congr 3
 rw [Bool.eq_iff_iff, valD_is, pk_mem, decide_eq_true_eq]
theorem pair_wr (a b : Int) : WR (m_pair_of [.v (.int a), .v (.int b)]) fun s _ => s = .v (pD (pr a b)) := by
 unfold m_pair_of b_pair_of
 (refine wr_fnM ?_; refine ws_ret ?_; refine wr_tup ?_; refine wl_cons ?_; refine wr_call ?_; refine wl_cons ?_; refine wr_v rfl ?_; refine ⟨_, dat_v, ?_⟩; refine wl_cons ?_; refine wr_v rfl ?_; refine ⟨_, dat_v, ?_⟩; refine wl_nil ?_; refine ⟨_, gMin2_ii, ?_⟩; refine ⟨_, dat_v, ?_⟩; refine wl_cons ?_; refine wr_call ?_; refine wl_cons ?_; refine wr_v rfl ?_; refine ⟨_, dat_v, ?_⟩; refine wl_cons ?_; refine wr_v rfl ?_; refine ⟨_, dat_v, ?_⟩; refine wl_nil ?_; refine ⟨_, gMax2_ii, ?_⟩; refine ⟨_, dat_v, ?_⟩; refine wl_nil ?_)
 rfl
def sidesU (S : List Tri) : List IP := S.foldl (fun acc t => addU acc (pr t.1 t.2.1)) []
theorem sidesU_snoc (S : List Tri) (t : Tri) : sidesU (S ++ [t]) = addU (sidesU S) (pr t.1 t.2.1) := by unfold sidesU; rw [List.foldl_append]; rfl
theorem sidesU_all : ∀ S : List Tri, (sidesU S).Nodup /\ ∀ p, p ∈ sidesU S ↔ ∃ t ∈ S, p = pr t.1 t.2.1 := by
 intro S
 have key : ∀ (S : List Tri) (A : List IP), A.Nodup -> (S.foldl (fun acc t => addU acc (pr t.1 t.2.1)) A).Nodup /\ ∀ p, p ∈ S.foldl (fun acc t => addU acc (pr t.1 t.2.1)) A ↔ p ∈ A \/ ∃ t ∈ S, p = pr t.1 t.2.1 := by
  intro S
  induction S with
  | nil => intro A h; exact ⟨h, by simp⟩
  | cons t S ih =>
   intro A h
   obtain ⟨h1, h2⟩ := ih (addU A (pr t.1 t.2.1)) (addU_nd h)
   refine ⟨h1, fun p => ?_⟩
   rw [List.foldl_cons, h2, addU_mem]
   simp only [List.mem_cons, exists_eq_or_imp, or_assoc]
 obtain ⟨h1, h2⟩ := key S [] List.nodup_nil
 exact ⟨h1, fun p => by rw [show sidesU S = S.foldl (fun acc t => addU acc (pr t.1 t.2.1)) [] from rfl, h2]; simp⟩
def allL (F : List Tri) : List IP := sortP (sidesU (spokes F))
def InnerW (S : List Tri) (p : IP) : Prop := p ∈ S.map way /\ (p.2, p.1) ∈ S.map way
instance (S : List Tri) (p : IP) : Decidable (InnerW S p) := by unfold InnerW; exact inferInstance
theorem inner_m {S : List Tri} {ns : List Str} {ds : List D} {s : Mp.Slot} (hs : s = .v (.ins "Web" ns ds) \/ s = .box (.ins "Web" ns ds)) (hf : gFld ctab_Web "third" (.ins "Web" ns ds) = some (waysD S)) (p : IP) : WR (m_Web_is_inner [s, .v (pD p)]) fun r x => r = .v (.bl (decide (InnerW S p))) /\ ∃ x', x = s :: x' := by
 have hd : ∀ ρ : ME, slotD (s :: ρ) 0 = some (.ins "Web" ns ds) := fun ρ => by rcases hs with rfl | rfl <;> rfl
 unfold m_Web_is_inner b_Web_is_inner
 (refine wr_fnM ?_; refine ws_seq ?_; refine ws_asg ?_; refine wr_v rfl ?_; refine ⟨_, dat_v, ?_⟩)
 refine ⟨_, rfl, ?_⟩
 (refine ws_ret ?_; refine wr_andV ?_; refine wb_tst ?_; refine wr_op ?_; refine wr_tup ?_; refine wl_cons ?_; refine wr_v rfl ?_; refine ⟨_, dat_v, ?_⟩; refine wl_cons ?_; refine wr_v rfl ?_; refine ⟨_, dat_v, ?_⟩; refine wl_nil ?_; refine ⟨_, dat_v, ?_⟩)
 refine wr_fldV (hd _) hf ?_
 refine ⟨_, rfl, _, ways_gIn S p.1 p.2, ?_⟩
 (refine ex_bl ?_)
 refine ⟨fun e => ?_, fun e => ?_⟩
 ·have e := of_decide_eq_true e
  (refine wr_op ?_; refine wr_tup ?_; refine wl_cons ?_; refine wr_v rfl ?_; refine ⟨_, dat_v, ?_⟩; refine wl_cons ?_; refine wr_v rfl ?_; refine ⟨_, dat_v, ?_⟩; refine wl_nil ?_; refine ⟨_, dat_v, ?_⟩)
  refine wr_fldV (hd _) hf ?_
  refine ⟨_, rfl, _, ways_gIn S p.2 p.1, ?_⟩
  refine ⟨?_, _, rfl⟩
  congr 2
  refine decide_eq_decide.mpr ?_
  unfold InnerW
  exact ⟨fun h => ⟨e, h⟩, fun h => h.2⟩
 ·have e := of_decide_eq_false e
  refine ⟨?_, _, rfl⟩
  congr 2
  symm
  refine decide_eq_false fun z => e z.1
def ckey (n : Key × List Key × List D) : Option Int := match n.1 with
 | .inl v => some v
 | _ => none
def ckeys (N : NC) : List Int := N.filterMap ckey
theorem ckeys_of : ∀ {N : NC} {KL : List Int}, N.map (·.1) = KL.map .inl -> ckeys N = KL
 | [], [], _ => rfl
 | [], k :: KL, h => by cases h
 | n :: N, [], h => by cases h
 | n :: N, k :: KL, h => by
  rw [List.map_cons, List.map_cons] at h
  obtain ⟨h1, h2⟩ := List.cons.inj h
  unfold ckeys
  rw [List.filterMap_cons]
  have : ckey n = some k := by unfold ckey; rw [h1]
  rw [this]
  dsimp only
  rw [show N.filterMap ckey = KL from ckeys_of h2]
theorem NestOk.ck {S : List Tri} {N : NC} (h : NestOk S N) : N.map (·.1) = (ckeys N).map .inl /\ (ckeys N).Nodup /\ ∀ v, v ∈ ckeys N ↔ ∃ t ∈ S, t.1 = v := by
 obtain ⟨KL, k1, k2, k3⟩ := h.keys
 rw [ckeys_of k1]
 exact ⟨k1, k2, k3⟩
theorem aft_keys {S : List Tri} {N : NC} (h : NestOk S N) : keysD (aftD N) = some ((ckeys N).map D.int) := by
 unfold aftD
 show some ((N.map (·.1)).map kD) = _
 rw [h.ck.1, List.map_map]
 rfl
abbrev webNs : List Str := ["trios", "third", "after", "pairs", "told", "quick"]
@[irreducible] def webD (F : List Tri) (N : NC) (T : List IP) (Q : List Int) : D := .ins "Web" webNs [fD F, waysD (spokes F), aftD N, .lst ((allL F).map pD), tolD T, bhD Q]
theorem web_trios {F : List Tri} {N : NC} {T : List IP} {Q : List Int} : gFld ctab_Web "trios" (webD F N T Q) = some (fD F) := by unfold webD; kernel_rfl
theorem web_third {F : List Tri} {N : NC} {T : List IP} {Q : List Int} : gFld ctab_Web "third" (webD F N T Q) = some (waysD (spokes F)) := by unfold webD; kernel_rfl
theorem web_after {F : List Tri} {N : NC} {T : List IP} {Q : List Int} : gFld ctab_Web "after" (webD F N T Q) = some (aftD N) := by unfold webD; kernel_rfl
theorem web_pairs {F : List Tri} {N : NC} {T : List IP} {Q : List Int} : gFld ctab_Web "pairs" (webD F N T Q) = some (.lst ((allL F).map pD)) := by unfold webD; kernel_rfl
theorem web_told {F : List Tri} {N : NC} {T : List IP} {Q : List Int} : gFld ctab_Web "told" (webD F N T Q) = some (tolD T) := by unfold webD; kernel_rfl
theorem web_quick {F : List Tri} {N : NC} {T : List IP} {Q : List Int} : gFld ctab_Web "quick" (webD F N T Q) = some (bhD Q) := by unfold webD; kernel_rfl
theorem thirds_eq : m_thirds_of = m_law_ways := by kernel_rfl
theorem ways_keys (S : List Tri) : keysD (waysD S) = some (S.map fun t => .tup [.int t.1, .int t.2.1]) := by
 unfold waysD
 show some ((S.map wk).map fun k => D.tup (k.map kD)) = _
 rw [List.map_map]
 rfl
theorem take_snoc {α : Type} {L : List α} {p : α -> Bool} {j : Nat} (hj : j < L.length) : (L.take (j + 1)).filter p = (L.take j).filter p ++ if p L[j] then [L[j]] else [] := by
 rw [List.take_succ_eq_append_getElem hj, List.filter_append]
 congr 1
 rw [List.filter_cons, List.filter_nil]
abbrev W0 (ns : List Str) (ds : List D) : D := .ins "Web" ns ds
@[irreducible] def cagD (P : List Tri) (W : D) : D := .ins "Cage" ["places", "web"] [fD P, W]
def addI (T : List Int) (p : Int) : List Int := if p ∈ T then T else T ++ [p]
theorem addI_mem {T : List Int} {p x : Int} : x ∈ addI T p ↔ x ∈ T \/ x = p := by
 unfold addI
 split
 ·rename_i h
  constructor
  ·exact .inl
  ·rintro (h | rfl) <;> assumption
 ·rw [List.mem_append, List.mem_singleton]
theorem addI_nd {T : List Int} {p : Int} (h : T.Nodup) : (addI T p).Nodup := by
 unfold addI
 split
 ·exact h
 ·rename_i hn
  rw [List.nodup_append]
  exact ⟨h, by simp, fun x hx y hy e => hn (by rw [<- List.mem_singleton.mp hy, <- e]; exact hx)⟩
def prU (Sh : List IP) : List IP := Sh.foldl (fun acc p => addU acc (pr p.1 p.2)) []
def inU (Q : List Int) : List Int := Q.foldl addI []
abbrev webOf (F : List Tri) (N : NC) (Sh : List IP) (Qs : List Int) : D := webD F N ((allL F).filter fun p => decide (p ∈ prU Sh /\ InnerW (spokes F) p)) ((ckeys N).filter fun v => decide (v ∈ inU Qs))
theorem Drawn.fast {P F : List Tri} {E : List IP} {Q : List Int} {n : Nat} (h : Drawn P F E Q n) : ∀ q ∈ Q, 0 ≤ q /\ q < n := fun q hq => up_mem.mp (h.qsub.subset hq)
def Slf (s : Mp.Slot) (d : D) : Prop := s = .v d \/ s = .box d
theorem Slf.slot {s : Mp.Slot} {d : D} (h : Slf s d) (ρ : ME) : slotD (s :: ρ) 0 = some d := by rcases h with rfl | rfl <;> rfl
theorem wr_self {ml : List (Str × MF)} {x : Str} {s : Mp.Slot} {ρ : ME} {d : D} {f : MF} {ms : ME -> ML} {Q : Mp.Slot -> ME -> Prop} (hs : Slf s d) (hp : pickM ml x d = some f)
    (h : WL (ms (s :: ρ)) fun ds ρ1 => ∃ ρ2, ρ1 = s :: ρ2 /\ WR (f (s :: ds.map .v)) fun r x => (∃ e, dat r = some e) /\ (∃ x', x = s :: x') /\ Q r (s :: ρ2)) : WR (mMethV ml x 0 ms (s :: ρ)) Q := by
  rcases hs with e | e
  · subst e
    refine wr_methV' (d := d) rfl hp (h.mono fun ds ρ1 h => ?_)
    obtain ⟨ρ2, e, h⟩ := h
    subst e
    exact h.mono fun r x h => ⟨h.1, h.2.2⟩
  · subst e
    refine wr_methO (d := d) (.inr rfl) hp (h.mono fun ds ρ1 h => ?_)
    obtain ⟨ρ2, e, h⟩ := h
    subst e
    refine ⟨d, rfl, h.mono fun r x h => ?_⟩
    obtain ⟨h1, ⟨x', h2⟩, q⟩ := h
    exact ⟨h1, d, x', h2, q⟩
theorem pick_web {ml : List (Str × MF)} {x : Str} {F : List Tri} {N : NC} {T : List IP} {Q : List Int} {f : MF} (hn : webNs.contains x = false) (hl : ml.lookup ("Web" : Str) = some f) : pickM ml x (webD F N T Q) = some f := by
 unfold webD
 show (if webNs.contains x then none else ml.lookup ("Web" : Str)) = _
 rw [hn, if_neg (by simp), hl]
def Pl (s : Mp.Slot) : Prop := s = .no \/ ∃ d, s = .v d
theorem ws_norm {m : ME -> MS} {ρ ρ' : ME} {Q : Fl -> Prop} (e : ρ = ρ') (h : WS (m ρ') Q) : WS (m ρ) Q := by rw [e]; exact h
theorem Drawn.ring {P F : List Tri} {E : List IP} {Q : List Int} {n : Nat} (h : Drawn P F E Q n) {v : Int} (h0 : 0 ≤ v) (h1 : v < n) : ∃ x q cl, Ring (lnk v (spokes F)) x q cl := by
 obtain ⟨r, cl, hr⟩ := h.fine.good.vs.row v h0 h1
 obtain ⟨x, q, hq, _, _⟩ := hr.ring
 exact ⟨x, q, cl, hq⟩
def b_Web_neighbours : ME -> MS := (mSeq (mSet 2 (mIx (mFldV ctab_Web "after" 0) (mVar 1))) (mRet (mSortSet (mOp gAdd (mCallV gListB 2) (mLcK (pVar 2) (tgName 3) mYes (mIxV 2 (mVar 3)) [3])))))
def m_Web_neighbours : MF := fnM 2 b_Web_neighbours
def b_Web_is_sharp : ME -> MS := mRet (mOrV (mOp gInA (mVar 1) (mFldV ctab_Web "told" 0)) (mNotV (mMethV [("Web", m_Web_is_inner)] "is_inner" 0 (mCons (mVar 1) mNil))))
def m_Web_is_sharp : MF := fnM 0 b_Web_is_sharp
def b_Web_edged : ME -> MS := mRet (mLc (mItL (mMethV [("Web", m_Web_neighbours)] "neighbours" 0 (mCons (mVar 1) mNil))) (tgName 2) (mTst (mMethV [("Web", m_Web_is_sharp)] "is_sharp" 0 (mCons (mFn m_pair_of (mCons (mVar 1) (mCons (mVar 2) mNil))) mNil))) (mVar 2) [2])
def m_Web_edged : MF := fnM 1 b_Web_edged
def b_Web_sort_of : ME -> MS := (mSeq (mSet 2 (mCall1 gLen (mMethV [("Web", m_Web_edged)] "edged" 0 (mCons (mVar 1) mNil)))) (mSeq (mIfS (mOrB (mTst (mOp gInA (mVar 1) (mFldV ctab_Web "quick" 0))) (mTst (mOp gGt (mVar 2) (mC (.int 2)))))
 (mRet (mC (.str "fast")))
 mSkip) (mRet (mIx (mTup (mCons (mC (.str "smooth")) (mCons (mC (.str "end")) (mCons (mC (.str "row")) mNil)))) (mVar 2)))))
def m_Web_sort_of : MF := fnM 1 b_Web_sort_of
def nbL (F : List Tri) (v : Int) : List Int := sortU ((lnk v (spokes F)).map (·.1) ++ (lnk v (spokes F)).map (·.2))
def shpP (F : List Tri) (T : List IP) (p : IP) : Bool := decide (p ∈ T) || !decide (InnerW (spokes F) p)
theorem sharp_wr {F : List Tri} {N : NC} {T : List IP} {Q : List Int} {s : Mp.Slot} (hs : Slf s (webD F N T Q)) (p : IP) : WR (m_Web_is_sharp [s, .v (pD p)]) fun r y => r = .v (.bl (shpP F T p)) /\ ∃ y', y = s :: y' := by
 unfold m_Web_is_sharp b_Web_is_sharp shpP
 (refine wr_fnM ?_; refine ws_ret ?_; refine wr_orV ?_; refine wb_tst ?_; refine wr_op ?_; refine wr_v rfl ?_; refine ⟨_, dat_v, ?_⟩)
 refine wr_fldV (hs.slot _) web_told ⟨_, rfl, _, tol_gIn T p, ?_⟩
 (refine ex_bl ?_)
 refine ⟨fun e => ?_, fun e => ?_⟩
 ·rw [e]; exact ⟨rfl, _, rfl⟩
 rw [e]
 (refine wr_notV ?_; refine wb_tst ?_)
 refine wr_self hs (pick_web (ml := [("Web", m_Web_is_inner)]) (x := "is_inner") (by decide) rfl) ?_
 (refine wl_cons ?_; refine wr_v rfl ?_; refine ⟨_, dat_v, ?_⟩; refine wl_nil ?_)
 refine ⟨_, rfl, ?_⟩
 have hw : gFld ctab_Web "third" (webD F N T Q) = some (waysD (spokes F)) := web_third
 unfold webD at hs hw
 refine (inner_m (S := spokes F) hs hw p).mono fun r y h => ?_
 obtain ⟨rfl, y', rfl⟩ := h
 refine ⟨⟨_, rfl⟩, ⟨_, rfl⟩, ?_⟩
 (refine ex_bl ?_)
 exact ⟨by simp, _, rfl⟩
def shpL (F : List Tri) (T : List IP) (v : Int) : List Int := (nbL F v).filter fun u => shpP F T (pr v u)
def kindS (q : Bool) (m : Nat) : Str := if q = true \/ 2 < m then "fast" else if m = 0 then "smooth" else if m = 1 then "end" else "row"
theorem ix_kind {m : Nat} (h : ¬ 2 < m) : gIx (.tup [.str "smooth", .str "end", .str "row"]) (.int (m : Nat)) = some (.str (kindS false m)) /\ gIx (.lst [.str "smooth", .str "end", .str "row"]) (.int (m : Nat)) = some (.str (kindS false m)) := by
 have : m = 0 \/ m = 1 \/ m = 2 := by omega
 rcases this with rfl | rfl | rfl <;> exact ⟨rfl, rfl⟩
theorem gSorted_ints (ns : List Int) : gSorted (.lst (ns.map .int)) = some (.own (.lst ((PySem.W.sortI ns).map .int))) := by
 show (match ints? (ns.map D.int) with
  | some ns => some (Slot.own (.lst ((PySem.W.sortI ns).map .int)))
  | none => (pairs? (ns.map D.int)).map fun ps => Slot.own (.lst ((sortP ps).map pD))) = _
 rw [ints_map]
theorem near_nbL {F : List Tri} {n : Nat} (g : Good F n) {v : Int} {is : List Int} (hm : (v, is) ∈ nearI (F.map l3)) (h0 : 0 ≤ v) (h1 : v < n) : PySem.W.sortI is = nbL F v := by
 obtain ⟨r, cl, hr⟩ := g.vs.row v h0 h1
 have hN := good_near g.vs
 have pm := hN.row hm hr
 unfold nbL
 refine sortU_eq ?_ fun k => ?_
 ·have nd : (PySem.W.sortI is).Nodup := (PySem.W.sortI_perm is).nodup_iff.mpr (hN.ok.ls _ hm)
  have hs := PySem.W.sortI_rises is
  rw [List.nodup_iff_pairwise_ne] at nd
  exact (hs.and nd).imp fun h => by omega
 ·rw [(PySem.W.sortI_perm is).mem_iff, hN.mem v is hm]
  simp only [List.mem_append, List.mem_map]
  constructor
  ·rintro ⟨p, hp, e | e⟩
   ·exact .inl ⟨p, hp, e⟩
   ·exact .inr ⟨p, hp, e⟩
  ·rintro (⟨p, hp, e⟩ | ⟨p, hp, e⟩)
   ·exact ⟨p, hp, .inl e⟩
   ·exact ⟨p, hp, .inr e⟩
theorem innerW_pr {S : List Tri} {v u : Int} : InnerW S (pr v u) ↔ InnerW S (v, u) := by
 rcases pr_or v u with e | e
 ·rw [e]
 ·rw [e]; exact ⟨fun h => ⟨h.2, h.1⟩, fun h => ⟨h.2, h.1⟩⟩
theorem isn_s {i : Str} : gIsN (.str i) .non = some (.v (.bl false)) := rfl
theorem isi_sb {i : Str} : gIsi "bool" (.str i) = some (.v (.bl false)) := isi rfl kit14
theorem isi_si {i : Str} : gIsi "int" (.str i) = some (.v (.bl false)) := isi rfl kit15
theorem isi_ss {i : Str} : gIsi "str" (.str i) = some (.v (.bl true)) := isi rfl kit16
theorem eq_s {i j : Str} : gEq (.str i) (.str j) = some (.v (.bl (decide (i = j)))) := rfl
theorem same_str {n : Nat} (k : Str) : WR (m_same (n + 1) [.v (.str k), .v (.str k)]) fun s _ => s = .v (.bl true) := by
 refine ⟨.v (.bl true), [.v (.str k), .v (.str k), .no], ?_, rfl⟩
 unfold m_same
 (simp -implicitDefEqProofs only [Mp.fnM, Mp.mSeq, Mp.mIfS, Mp.mAndB, Mp.mOrB, Mp.mNotB, Mp.mAndV, Mp.mOrV, Mp.mNotV, Mp.mTst, Mp.mOp, Mp.mIxV, Mp.mIx, Mp.mVar, Mp.mC, Mp.mNeg, Mp.slotD, Mp.heldAt, Mp.putAt, Mp.frz, Mp.frzS, Mp.frzL, Mp.bnd, Mp.mSet, Mp.mSub, Mp.mRet, Mp.mRetN, Mp.mSkip, Mp.mDrop, Mp.mCall1, Mp.mCallV, Mp.mCall, Mp.mTup, Mp.mLst, Mp.mCons, Mp.mNil, Mp.mFn, Mp.mFnX, Mp.mIf, Mp.gMod_pos, Mp.gFdv_pos, Mp.gMul_l, Mp.gMul_r, Mp.gPow_s, Mp.gAdd_i, Mp.gSub_i, Mp.gLt_i, Mp.gLe_i, Mp.gGt_i, Mp.gGe_i, Mp.gIx_l, Mp.gIx_t, Mp.gIx_k, Mp.gLen_l, Mp.gLen_t, Mp.gLen_k, Mp.setD, List.getElem?_cons_zero, List.getElem?_cons_succ, List.set_cons_zero, List.set_cons_succ, Option.bind_some, Option.map_some, Option.bind_none, Option.map_none, List.length_cons, List.length_nil, List.length_map, List.map_cons, List.map_nil, decide_true, decide_false, if_true, if_false, Bool.false_eq_true, Bool.and_true, Bool.true_and, Bool.or_true, Bool.true_or, Bool.and_false, Bool.false_and, Bool.or_false, Bool.false_or, Bool.not_true, Bool.not_false, Mp.atI0, Mp.atI1, Mp.atI2, Mp.atI3, Mp.atI4, Mp.ixN1, Mp.ixN2, Mp.ixN3, Mp.ixN4, List.replicate, List.cons_append, List.nil_append, List.append_eq, Nat.zero_add, Nat.reduceAdd, Int.reduceLE, Int.reduceLT, Int.reduceNeg, Nat.reducePow, Nat.reduceLT, Int.reduceToNat, Nat.reduceLeDiff, isi_sb, isi_si, isi_ss, isn_s, eq_s])
theorem deg_is {F : List Tri} {n : Nat} (g : Good F n) {v : Int} {is : List Int} (hm : (v, is) ∈ nearI (F.map l3)) (h0 : 0 ≤ v) (h1 : v < n) : is.length = (nbL F v).length := by
 rw [<- near_nbL g hm h0 h1, (PySem.W.sortI_perm is).length_eq]
theorem deg_row {F : List Tri} {n : Nat} (g : Good F n) {v : Int} {r : List Int} {cl : Bool} (hr : Row (lnk v (spokes F)) r cl) (h0 : 0 ≤ v) (h1 : v < n) : r.length = (nbL F v).length := by
 obtain ⟨is, hm⟩ := (good_near g.vs).at h0 h1
 rw [<- deg_is g hm h0 h1, ((good_near g.vs).row hm hr).length_eq]
theorem wi_enum {ms : ME -> ML} {ρ : ME} {QI : List D -> ME -> Prop} (h : WL (ms ρ) fun ds ρ1 => ∃ xs, ds = [.lst xs] /\ QI (enumD 0 xs) ρ1) : WI (mEnum ms ρ) QI := by
 obtain ⟨ds, ρ1, e, xs, rfl, q⟩ := h
 exact ⟨_, ρ1, by unfold mEnum; rw [e]; rfl, q⟩
def opp (t : Tri) : List IP := [(t.2.1, t.1), (t.2.2, t.2.1), (t.1, t.2.2)]
def ows (t : Tri) : List IP := [(t.1, t.2.1), (t.2.1, t.2.2), (t.2.2, t.1)]
def touch (t u : Tri) : Bool := (ows u).any fun w => decide (w ∈ opp t)
structure Wsh (F : List Tri) (W : List Int) : Prop where
 len : W.length = F.length
 ok : ∀ w ∈ W, 0 ≤ w /\ w ≤ 2
def mx (w : Int) (ws : List Int) : Int := (maxI (w :: ws)).getD 0
def at0 (W : List Int) (j : Nat) : Int := W.getD j 0
theorem at0_get {W : List Int} {j : Nat} (h : j < W.length) : at0 W j = W[j] := by unfold at0; simp [h]
theorem bools_map : ∀ bs : List Bool, bools? (bs.map D.bl) = some bs
 | [] => rfl
 | b :: bs => by rw [List.map_cons, bools?, bools_map bs]; rfl
theorem Wsh.at {F : List Tri} {W : List Int} (h : Wsh F W) {i : Nat} (hi : i < F.length) : 0 ≤ at0 W i /\ at0 W i ≤ 2 := by
 rw [at0_get (by rw [h.len]; exact hi)]
 exact h.ok _ (List.getElem_mem _)
theorem ws_sub {k : Nat} {mi me : ME -> MR} {ρ : ME} {QS : Fl -> Prop} (h : WD (me ρ) fun e ρ1 => ∃ d0, heldAt ρ1 k = some d0 /\ WD (mi ρ1) fun i ρ2 => ∃ d1 d2, heldAt ρ2 k = some d1 /\ setD d1 i e = some d2 /\ QS (.nx (Mp.putAt ρ2 k d2))) : WS (mSub k mi me ρ) QS := by
 unfold mSub
 refine frzS_ok ?_
 obtain ⟨s, ρ1, e, d, e2, d0, e3, h⟩ := h
 refine ⟨s, ρ1, e, d, e2, ?_⟩
 dsimp only
 rw [e3]
 dsimp only
 refine frzS_ok ?_
 obtain ⟨s4, ρ4, e4, d4, e5, d5, d6, e6, e7, q⟩ := h
 exact ⟨s4, ρ4, e4, d4, e5, _, by simp only [e6, Option.bind_some, e7], q⟩
theorem set_nat {ds : List D} {k : Nat} {e : D} (h : k < ds.length) : setD (.lst ds) (.int (k : Nat)) e = some (.lst (ds.set k e)) := by
 show (ixN ds.length (k : Nat)).map (fun j => D.lst (ds.set j e)) = _
 unfold ixN
 rw [if_pos (by omega), if_pos (by omega), Int.toNat_natCast]
 rfl
structure Mid (F : List Tri) (U R V : List Int) : Prop where
 len : V.length = F.length
 lo : ∀ k, k < F.length -> at0 U k ≤ at0 V k
 hi : ∀ k, k < F.length -> at0 V k ≤ at0 R k
def ER (r : MR) (c : Er) (Q : ME -> Prop) : Prop := ∃ ρ, r = .err c ρ /\ Q ρ
def ES (r : MS) (c : Er) (Q : ME -> Prop) : Prop := ∃ ρ, r = .err c ρ /\ Q ρ
section
variable {ρ : ME} {c : Er} {Q : ME -> Prop} {s t : ME -> MS} {a : ME -> MR} {ms mk : ME -> ML} {f : MF} {p : ME -> MB} {mi : ME -> MI} {tg : MT}
theorem es_seq1 (h : ES (s ρ) c Q) : ES (mSeq s t ρ) c Q := by
 obtain ⟨ρ1, e, q⟩ := h
 exact ⟨ρ1, by unfold mSeq; rw [e], q⟩
theorem es_seq2 (h : WS (s ρ) fun f => ∃ ρ1, f = .nx ρ1 /\ ES (t ρ1) c Q) : ES (mSeq s t ρ) c Q := by
 obtain ⟨f, e, ρ1, rfl, ρ2, e2, q⟩ := h
 exact ⟨ρ2, by unfold mSeq; rw [e]; exact e2, q⟩
theorem es_if (h : WB (p ρ) fun b ρ1 => (b = true -> ES (s ρ1) c Q) /\ (b = false -> ES (t ρ1) c Q)) : ES (mIfS p s t ρ) c Q := by
 obtain ⟨b, ρ1, e, h1, h2⟩ := h
 cases b with
 | true =>
  obtain ⟨ρ2, e2, q⟩ := h1 rfl
  exact ⟨ρ2, by unfold mIfS; rw [e]; exact e2, q⟩
 | false =>
  obtain ⟨ρ2, e2, q⟩ := h2 rfl
  exact ⟨ρ2, by unfold mIfS; rw [e]; exact e2, q⟩
theorem er_fn (h : WL (ms ρ) fun ds ρ1 => ER (f (ds.map .v)) c (fun _ => True) /\ Q ρ1) : ER (mFn f ms ρ) c Q := by
 obtain ⟨ds, ρ1, e, ⟨ρ2, e2, _⟩, q⟩ := h
 refine ⟨ρ1, ?_, q⟩
 unfold mFn
 rw [e]
 show (match f (ds.map .v) with | .ok (.v d, _) => _ | .ok (.own d, _) => _ | .err c _ => _ | _ => _) = _
 rw [e2]
theorem er_fnM {n : Nat} {args : List Mp.Slot} (h : ES (s (args ++ List.replicate n .no)) c Q) : ER (fnM n s args) c Q := by
 obtain ⟨ρ1, e, q⟩ := h
 exact ⟨ρ1, by unfold fnM; rw [e], q⟩
end
instance (m : Int) (p : Tri) : Decidable (InP m p) := by unfold InP; exact inferInstance
theorem all_bls (bs : List Bool) : gAll (.lst (bs.map .bl)) = some (.v (.bl (bs.all id))) := by
 show (bools? (bs.map D.bl)).map (fun bs => Mp.Slot.v (D.bl (bs.all id))) = _
 rw [bools_map]; rfl
def FcOk (n : Int) (t : Tri) : Prop := (0 ≤ t.1 /\ 0 ≤ t.2.1 /\ 0 ≤ t.2.2) /\ (t.1 < n /\ t.2.1 < n /\ t.2.2 < n) /\ t.1 ≠ t.2.1 /\ t.2.1 ≠ t.2.2 /\ t.2.2 ≠ t.1
instance (n : Int) (t : Tri) : Decidable (FcOk n t) := by unfold FcOk; exact inferInstance
def etab : ETab := [("BadCorners", ["BadCorners", "CageError", "SoftError"]), ("BadFaces", ["BadFaces", "CageError", "SoftError"]), ("BadFast", ["BadFast", "CageError", "SoftError"]), ("BadSharp", ["BadSharp", "CageError", "SoftError"]), ("CageError", ["CageError", "SoftError"]), ("Crowded", ["Crowded", "CageError", "SoftError", "__init__"]), ("Loose", ["Loose", "CageError", "SoftError", "__init__"]), ("Pinched", ["Pinched", "CageError", "SoftError", "__init__"]), ("SoftError", ["SoftError"]), ("Twice", ["Twice", "CageError", "SoftError", "__init__"])]
theorem ws_tryOk {T : ETab} {h : Str} {i : Nat} {b : ME -> MS} {su : Str -> ME -> MS} {ρ : ME} {QS : Fl -> Prop} (k : WS (b ρ) QS) : WS (mTryAs T h i b su ρ) QS := by
 obtain ⟨f, e, q⟩ := k
 exact ⟨f, by unfold mTryAs; rw [e], q⟩
theorem ws_tryErr {T : ETab} {h : Str} {c : Er} {i : Nat} {b : ME -> MS} {su : Str -> ME -> MS} {ρ : ME} {QS : Fl -> Prop} (h1 : (T.lookup c.nm).isSome = true) (h2 : isaB T c.nm h = true) (k : ES (b ρ) c fun ρ1 => WS (su c.nm (ρ1.set i (.v c.dat))) fun f => ∃ ρ2, f = .nx ρ2 /\ allX i ρ2 = true /\ QS (.nx (ρ2.set i .no))) : WS (mTryAs T h i b su ρ) QS := by
 obtain ⟨ρ1, e, f, e1, ρ2, rfl, ha, q⟩ := k
 refine ⟨_, ?_, q⟩
 unfold mTryAs
 rw [e]
 dsimp only
 rw [if_pos h1, if_pos h2]
 show endX i (su c.nm (ρ1.set i (.v c.dat))) = _
 rw [e1]
 unfold endX
 dsimp only
 rw [if_pos ha]
abbrev gF (F : List Tri) (i : Nat) : Tri := F.getD i (0, 0, 0)
inductive Rch (F : List Tri) (T : List IP) (a : Int) (f : Nat) : Nat -> Prop
 | here : Rch F T a f f
 | go {i j : Nat} {e : Int} : Rch F T a f i -> e ∈ l3 (gF F i) -> e ≠ a -> shpP F T (pr a e) = false -> j < F.length -> a ∈ l3 (gF F j) -> e ∈ l3 (gF F j) -> Rch F T a f j
def mineL (F : List Tri) (a : Int) : List Nat := (List.range F.length).filter fun j => decide (a ∈ l3 (gF F j))
theorem mem_mine {F : List Tri} {a : Int} {j : Nat} : j ∈ mineL F a ↔ j < F.length /\ a ∈ l3 (gF F j) := by
 unfold mineL
 rw [List.mem_filter, List.mem_range, decide_eq_true_eq]
theorem ws_while {c : ME -> MB} {b : ME -> MS} {ρ : ME} {Q : Fl -> Prop} (n : Nat) (h : WS (mWN c b n ρ) Q) : WS (mWhile c b ρ) Q := by
 obtain ⟨f, e, q⟩ := h
 exact ⟨f, mWhile_eq n e (by simp), q⟩
def newF (F : List Tri) (a e : Int) (L : List Nat) : List Nat := (mineL F a).filter fun j => !decide (j ∈ L) && decide (e ∈ l3 (gF F j))
def stepF (F : List Tri) (T : List IP) (a e : Int) (L : List Nat) : List Nat := if e ≠ a /\ shpP F T (pr a e) = false then L ++ newF F a e L else L
structure FanI (F : List Tri) (T : List IP) (a : Int) (f : Nat) (h : Nat) (L : List Nat) : Prop where
 nd : L.Nodup
 mine : ∀ j ∈ L, j ∈ mineL F a
 rch : ∀ j ∈ L, Rch F T a f j
 fst : f ∈ L
 done : ∀ k (hk : k < L.length), k < h -> ∀ e ∈ l3 (gF F L[k]), e ≠ a -> shpP F T (pr a e) = false -> ∀ j ∈ mineL F a, e ∈ l3 (gF F j) -> j ∈ L
theorem mine_nd (F : List Tri) (a : Int) : (mineL F a).Nodup := List.nodup_range.filter _
theorem FanI.len {F : List Tri} {T : List IP} {a : Int} {f h : Nat} {L : List Nat} (H : FanI F T a f h L) : L.length ≤ F.length := by
 have h1 := nodup_le H.nd H.mine
 have h2 := (mineL F a).length
 have h3 : (mineL F a).length ≤ F.length := by
  unfold mineL
  exact Nat.le_trans (List.length_filter_le _ _) (by simp)
 omega
theorem FanI.side {F : List Tri} {T : List IP} {a e : Int} {f h : Nat} {L : List Nat} (H : FanI F T a f h L) (hh : h < L.length) (he : e ∈ l3 (gF F L[h])) :
    FanI F T a f h (stepF F T a e L) /\ (∃ M, stepF F T a e L = L ++ M) /\ (e ≠ a -> shpP F T (pr a e) = false -> ∀ j ∈ mineL F a, e ∈ l3 (gF F j) -> j ∈ stepF F T a e L) := by
  unfold stepF
  by_cases c : e ≠ a /\ shpP F T (pr a e) = false
  · rw [if_pos c]
    have mn : ∀ {j}, j ∈ newF F a e L ↔ j ∈ mineL F a /\ j ∉ L /\ e ∈ l3 (gF F j) := fun {j} => by unfold newF; rw [List.mem_filter]; simp
    refine ⟨⟨?_, ?_, ?_, List.mem_append_left _ H.fst, ?_⟩, ⟨_, rfl⟩, ?_⟩
    · refine List.nodup_append.mpr ⟨H.nd, (mine_nd F a).filter _, fun x hx y hy => ?_⟩
      rintro rfl
      exact (mn.mp hy).2.1 hx
    · intro j hj
      rcases List.mem_append.mp hj with z | z
      · exact H.mine j z
      · exact (mn.mp z).1
    · intro j hj
      rcases List.mem_append.mp hj with z | z
      · exact H.rch j z
      · obtain ⟨z1, z2, z3⟩ := mn.mp z
        have z4 := mem_mine.mp z1
        exact .go (H.rch _ (List.getElem_mem hh)) he c.1 c.2 z4.1 z4.2 z3
    · intro k hk hkh e2 he2 hne hs j hj hej
      have hk' : k < L.length := by omega
      rw [List.getElem_append_left hk'] at he2
      exact List.mem_append_left _ (H.done k hk' hkh e2 he2 hne hs j hj hej)
    · intro _ _ j hj hej
      by_cases z : j ∈ L
      · exact List.mem_append_left _ z
      · exact List.mem_append_right _ (mn.mpr ⟨hj, z, hej⟩)
  · rw [if_neg c]
    exact ⟨H, ⟨[], by simp⟩, fun h1 h2 => absurd ⟨h1, h2⟩ c⟩
def stepsF (F : List Tri) (T : List IP) (a : Int) : List Int -> List Nat -> List Nat
 | [], L => L
 | e :: es, L => stepsF F T a es (stepF F T a e L)
theorem FanI.sides {F : List Tri} {T : List IP} {a : Int} {f h : Nat} : ∀ {es : List Int} {L : List Nat} (H : FanI F T a f h L) (hh : h < L.length) (he : ∀ e ∈ es, e ∈ l3 (gF F L[h])),
    FanI F T a f h (stepsF F T a es L) /\ (∃ M, stepsF F T a es L = L ++ M) /\ ∀ e ∈ es, e ≠ a -> shpP F T (pr a e) = false -> ∀ j ∈ mineL F a, e ∈ l3 (gF F j) -> j ∈ stepsF F T a es L
  | [], L, H, hh, he => ⟨H, ⟨[], by simp [stepsF]⟩, fun e h => absurd h (by simp)⟩
  | e :: es, L, H, hh, he => by
    obtain ⟨H1, ⟨M, eM⟩, d1⟩ := H.side hh (he e (by simp))
    have hl : h < (stepF F T a e L).length := by rw [eM, List.length_append]; omega
    have hg : (stepF F T a e L)[h] = L[h] := by
      have : (stepF F T a e L)[h]? = L[h]? := by rw [eM, List.getElem?_append_left hh]
      rw [List.getElem?_eq_getElem hl, List.getElem?_eq_getElem hh] at this
      exact Option.some.inj this
    obtain ⟨H2, ⟨M2, eM2⟩, d2⟩ := FanI.sides (es := es) H1 hl (fun e2 h2 => by rw [hg]; exact he e2 (by simp [h2]))
    refine ⟨H2, ⟨M ++ M2, ?_⟩, ?_⟩
    · show stepsF F T a es (stepF F T a e L) = _
      rw [eM2, eM, List.append_assoc]
    · intro e2 h2 hne hs j hj hej
      rcases List.mem_cons.mp h2 with rfl | h2
      · show j ∈ stepsF F T a es (stepF F T a e2 L)
        rw [eM2]
        exact List.mem_append_left _ (d1 hne hs j hj hej)
      · exact d2 e2 h2 hne hs j hj hej
theorem FanI.next {F : List Tri} {T : List IP} {a : Int} {f h : Nat} {L : List Nat} (H : FanI F T a f h L) (hh : h < L.length) : FanI F T a f (h + 1) (stepsF F T a (l3 (gF F L[h])) L) := by
 obtain ⟨H2, ⟨M, eM⟩, d⟩ := H.sides (es := l3 (gF F L[h])) hh (fun e he => he)
 refine ⟨H2.nd, H2.mine, H2.rch, H2.fst, fun k hk hkh e he hne hs j hj hej => ?_⟩
 by_cases z : k = h
 ·subst z
  have hg : (stepsF F T a (l3 (gF F L[k])) L)[k] = L[k] := by
   have : (stepsF F T a (l3 (gF F L[k])) L)[k]? = L[k]? := by rw [eM, List.getElem?_append_left hh]
   rw [List.getElem?_eq_getElem hk, List.getElem?_eq_getElem hh] at this
   exact Option.some.inj this
  rw [hg] at he
  exact d e he hne hs j hj hej
 ·exact H2.done k hk (by omega) e he hne hs j hj hej
theorem FanI.start {F : List Tri} {T : List IP} {a : Int} {f : Nat} (h : f ∈ mineL F a) : FanI F T a f 0 [f] :=
 ⟨by simp, fun j hj => by rw [List.mem_singleton.mp hj]; exact h, fun j hj => by rw [List.mem_singleton.mp hj]; exact .here, by simp, fun k _ hk => absurd hk (by omega)⟩
theorem gF_get {F : List Tri} {j : Nat} (h : j < F.length) : gF F j = F[j] := by simp [gF, h]
theorem FanI.some {F : List Tri} {T : List IP} {a : Int} {f h : Nat} {L : List Nat} (H : FanI F T a f h L) (hh : h < L.length) {es : List Int} (he : ∀ e ∈ es, e ∈ l3 (gF F L[h])) (all : ∀ e ∈ l3 (gF F L[h]), e = a \/ e ∈ es) : FanI F T a f (h + 1) (stepsF F T a es L) := by
 obtain ⟨H2, ⟨M, eM⟩, d⟩ := H.sides (es := es) hh he
 refine ⟨H2.nd, H2.mine, H2.rch, H2.fst, fun k hk hkh e he2 hne hs j hj hej => ?_⟩
 by_cases z : k = h
 ·subst z
  have hg : (stepsF F T a es L)[k] = L[k] := by
   have : (stepsF F T a es L)[k]? = L[k]? := by rw [eM, List.getElem?_append_left hh]
   rw [List.getElem?_eq_getElem hk, List.getElem?_eq_getElem hh] at this
   exact Option.some.inj this
  rw [hg] at he2
  rcases all e he2 with q | q
  ·exact absurd q hne
  ·exact d e q hne hs j hj hej
 ·exact H2.done k hk (by omega) e he2 hne hs j hj hej
def Irr (F : List Tri) : Prop := ∀ i, i < F.length -> (gF F i).1 ≠ (gF F i).2.1 /\ (gF F i).2.1 ≠ (gF F i).2.2 /\ (gF F i).2.2 ≠ (gF F i).1
theorem Good.irr {F : List Tri} {n : Nat} (g : Good F n) : Irr F := fun i hi => by
 have hm := List.getElem_mem hi
 rw [gF_get hi]
 rcases hF : F[i] with ⟨a, b, c⟩
 rw [hF] at hm
 have m := mem_spokes hm
 have i1 := g.vs.irr _ m
 have i2 := g.vs.irr _ (g.vs.rot _ m)
 have i3 := g.vs.irr _ (g.vs.rot _ (g.vs.rot _ m))
 exact ⟨i1, i2, i3⟩
theorem nbL_mem {F : List Tri} {a b : Int} : b ∈ nbL F a ↔ ∃ c, (a, b, c) ∈ spokes F \/ (a, c, b) ∈ spokes F := by
 unfold nbL
 rw [sortU_mem, List.mem_append, List.mem_map, List.mem_map]
 constructor
 ·rintro (⟨⟨x, y⟩, h, rfl⟩ | ⟨⟨x, y⟩, h, rfl⟩)
  ·exact ⟨y, .inl (mem_lnk.mp h)⟩
  ·exact ⟨x, .inr (mem_lnk.mp h)⟩
 ·rintro ⟨c, h | h⟩
  ·exact .inl ⟨(b, c), mem_lnk.mpr h, rfl⟩
  ·exact .inr ⟨(c, b), mem_lnk.mpr h, rfl⟩
def SameD (n : Nat) (d : D) : Prop := ∃ ρ, m_same n [.v d, .v d] = .ok (.v (.bl true), ρ)
theorem SameD.wr {n : Nat} {d : D} (h : SameD n d) : WR (m_same n [.v d, .v d]) fun s _ => s = .v (.bl true) := by
 obtain ⟨ρ, e⟩ := h
 exact ⟨_, _, e, rfl⟩
theorem SameD.int (n : Nat) (i : Int) : SameD (n + 1) (.int i) := by
 obtain ⟨ρ, e⟩ := same_int (n := n) (i := i) (j := i)
 exact ⟨ρ, by rw [e]; simp⟩
theorem SameD.lst {n : Nat} {ds : List D} (hl : ds.length < 1000000) (h : ∀ d ∈ ds, SameD n d) : SameD (n + 1) (.lst ds) :=
 same_lst rfl hl fun i x y h1 h2 => by
  rw [h1] at h2
  cases h2
  exact h x (List.mem_of_getElem? h1)
theorem SameD.tup {n : Nat} {ds : List D} (hl : ds.length < 1000000) (h : ∀ d ∈ ds, SameD n d) : SameD (n + 1) (.tup ds) :=
 same_tup rfl hl fun i x y h1 h2 => by
  rw [h1] at h2
  cases h2
  exact h x (List.mem_of_getElem? h1)
theorem SameD.tri (n : Nat) (p : Tri) : SameD (n + 2) (tD p) := SameD.tup (by simp) fun d hd => by
 simp only [List.mem_cons, List.not_mem_nil, or_false] at hd
 rcases hd with rfl | rfl | rfl <;> exact SameD.int n _
theorem noXs_all {α : Type} {f : α -> D} (h : ∀ x, noX (f x) = true) (L : List α) : noXs (L.map f) = true := by
 induction L with
 | nil => rfl
 | cons x L ih => show (noX (f x) && noXs (L.map f)) = true; rw [h, ih]; rfl
theorem noX_fD (F : List Tri) : noX (fD F) = true := noXs_all (fun t => rfl) F
theorem noX_pairs (T : List IP) : noX (.lst (T.map pD)) = true := noXs_all (fun t => rfl) T
theorem noX_cag {P F : List Tri} {N : NC} {T : List IP} {Q : List Int} (hN : NestOk (spokes F) N) : noX (cagD P (webD F N T Q)) = true := by
 have h1 := noX_fD P
 have h2 := noX_fD F
 have h3 : noX (waysD (spokes F)) = true := by unfold waysD; exact noXs_all (fun t => rfl) _
 have h4 : noX (aftD N) = true := by
  unfold aftD nestD
  show noXs (N.map fun n => D.dK n.2.1 n.2.2) = true
  have : ∀ M : NC, (∀ n ∈ M, n ∈ N) -> noXs (M.map fun n => D.dK n.2.1 n.2.2) = true := by
   intro M
   induction M with
   | nil => intro _; rfl
   | cons n M ih =>
    intro hM
    obtain ⟨v, _, _, e⟩ := hN.inn n (hM n (by simp))
    show (noXs n.2.2 && noXs (M.map fun n => D.dK n.2.1 n.2.2)) = true
    rw [ih fun m hm => hM m (by simp [hm]), e, noXs_all (fun t => rfl)]
    rfl
  exact this N fun _ z => z
 have h5 := noX_pairs (allL F)
 have h6 : noX (tolD T) = true := by unfold tolD; exact noXs_all (fun t => rfl) _
 have h7 : noX (bhD Q) = true := by unfold bhD; exact noXs_all (fun t => rfl) _
 unfold cagD webD
 show (noX (fD P) && ((noX (fD F) && (noX (waysD (spokes F)) && (noX (aftD N) && (noX (.lst ((allL F).map pD)) && (noX (tolD T) && (noX (bhD Q) && true)))))) && true)) = true
 rw [h1, h2, h3, h4, h5, h6, h7]; rfl
theorem es_raiseI {c : Str} {fs : List Str} {ms : ME -> ML} {ρ : ME} {e : Er} {Q : ME -> Prop} (h : WL (ms ρ) fun ds ρ1 => e = ⟨c, fs.reverse, ds.reverse⟩ /\ Q ρ1) : ES (mRaiseI c fs ms ρ) e Q := by
 obtain ⟨ds, ρ1, e1, rfl, q⟩ := h
 exact ⟨ρ1, by unfold mRaiseI; rw [e1], q⟩
theorem wr_xf {i : Nat} {f : Str} {d : D} {ρ : ME} {Q : Slot -> ME -> Prop} {ns : List Str} {vs : List D} (e : ρ[i]? = some (.v (.exf ns vs))) (e2 : (ns.zip vs).lookup f = some d) (h : Q (.v d) ρ) : WR (mXf i f ρ) Q := ⟨_, _, by unfold mXf; rw [e]; dsimp only; rw [e2], h⟩
def b_width : ME -> MS := (mSeq (mSet 1 (mC (.int 1))) (mSeq (mFor (mRng1 (mCons (mVar 0) mNil)) (tgName 2)
 (mSet 1 (mOp gMulA (mC (.int 2)) (mVar 1)))) (mRet (mVar 1))))
def m_width : MF := fnM 2 b_width
def Ev3 (i j k : Int) : Prop := i % 2 = 0 /\ j % 2 = 0 /\ k % 2 = 0
instance (i j k : Int) : Decidable (Ev3 i j k) := by unfold Ev3; infer_instance
def red : Nat -> Int -> Int -> Int -> Nat × Int × Int × Int
 | 0, i, j, k => (0, i, j, k)
 | d + 1, i, j, k => if Ev3 i j k then red d (i / 2) (j / 2) (k / 2) else (d + 1, i, j, k)
def spI (fi : Int) (d : Nat) (i j : Int) : List IP -> List Int
 | [(v, _)] => [0, v, 0, 0, 0]
 | [(u, _), (v, s)] => [1, u, v, d, s]
 | _ => [2, fi, d, i, j]
def Dis (t : Tri) : Prop := t.1 ≠ t.2.1 /\ t.2.1 ≠ t.2.2 /\ t.2.2 ≠ t.1
theorem Dis.nd {t : Tri} (h : Dis t) : (l3 t).Nodup := by
 unfold l3
 have h1 := h.1
 have h2 := h.2.1
 have h3 := h.2.2
 simp only [List.nodup_cons, List.mem_cons, List.not_mem_nil, or_false, not_or, not_false_eq_true, List.nodup_nil, and_true]
 exact ⟨⟨h1, fun e => h3 e.symm⟩, h2⟩
abbrev gT (F : List Tri) (i : Nat) : Tri := F.getD i (0, 0, 0)
def Adj (F : List Tri) (i j : Nat) : Prop := i < F.length /\ j < F.length /\ touch (gT F i) (gT F j) = true
def popO (L0 p : List Nat) (x : Nat) : List Nat := if x ∈ L0 /\ x ∉ p then p ++ [x] else p
structure BInv (F : List Tri) (L0 : List Nat) (f : Nat) (p : List Nat) : Prop where
 nd : p.Nodup
 all : ∀ x ∈ p, x ∈ L0 /\ Hang (Adj F) f x
theorem BInv.pop {F : List Tri} {L0 : List Nat} {f : Nat} {p : List Nat} (h : BInv F L0 f p) {x : Nat} (hx : Hang (Adj F) f x) : BInv F L0 f (popO L0 p x) := by
 unfold popO
 split
 ·rename_i z
  refine ⟨?_, fun y hy => ?_⟩
  ·rw [List.nodup_append]
   exact ⟨h.nd, by simp, fun a ha b hb e => by rw [List.mem_singleton] at hb; subst hb; subst e; exact z.2 ha⟩
  ·rcases List.mem_append.mp hy with w | w
   ·exact h.all y w
   ·rw [List.mem_singleton] at w; subst w; exact ⟨z.1, hx⟩
 ·exact h
theorem nodup_le {p : List Nat} {n : Nat} (nd : p.Nodup) (h : ∀ x ∈ p, x < n) : p.length ≤ n := by
 have pm : p.Perm ((List.range n).filter fun x => decide (x ∈ p)) := nodup_perm nd (List.nodup_range.sublist List.filter_sublist) fun x => by
  rw [List.mem_filter, List.mem_range, decide_eq_true_eq]
  exact ⟨fun z => ⟨h x z, z⟩, fun z => z.2⟩
 rw [pm.length_eq]
 have := List.length_filter_le (fun x => decide (x ∈ p)) (List.range n)
 rw [List.length_range] at this
 exact this
structure VJ (F : List Tri) (n : Nat) : Prop where
 rng : ∀ t ∈ spokes F, 0 ≤ t.1 /\ t.1 < n
 irr : ∀ t ∈ spokes F, t.1 ≠ t.2.1
 nd : ((spokes F).map way).Nodup
 has : ∀ v : Int, 0 ≤ v -> v < n -> ∃ t ∈ spokes F, t.1 = v
 deg : ∀ v, (lnk v (spokes F)).length ≤ 24
 f1 : 1 ≤ F.length
 fl : F.length ≤ 64
 n24 : n ≤ 48
theorem lnk_fnd {S : List Tri} (nd : (S.map way).Nodup) (v : Int) : ((lnk v S).map (·.1)).Nodup := by
 unfold lnk
 rw [List.map_filterMap]
 have := List.pairwise_map.mp nd
 refine List.Pairwise.filterMap _ (fun a b hab x hx y hy e => hab ?_) this
 split at hx
 ·split at hy
  ·rename_i h1 h2
   simp only [Option.map_some, Option.some.injEq] at hx hy
   show (a.1, a.2.1) = (b.1, b.2.1)
   rw [h1, h2, hx, hy, e]
  ·cases hy
 ·cases hx
theorem spokes_rr (F : List Tri) : ((spokes F).map fun t => rt (rt t)).Perm (spokes F) := by
 induction F with
 | nil => exact List.Perm.nil
 | cons t F ih =>
  rw [spokes_cons, List.map_append]
  refine List.Perm.append ?_ ih
  show [rt (rt t), rt (rt (rt t)), rt (rt (rt (rt t)))].Perm [t, rt t, rt (rt t)]
  rw [rt3]
  show [rt (rt t), t, rt t].Perm [t, rt t, rt (rt t)]
  exact (List.Perm.swap _ _ _).trans ((List.Perm.swap _ _ _).cons _)
theorem lnk_snd {F : List Tri} (nd : ((spokes F).map way).Nodup) (v : Int) : ((lnk v (spokes F)).map (·.2)).Nodup := by
 have nd2 : ((spokes F).map fun t => way (rt (rt t))).Nodup := by
  have := (spokes_rr F).map way
  rw [List.map_map] at this
  exact this.nodup_iff.mpr nd
 unfold lnk
 rw [List.map_filterMap]
 have := List.pairwise_map.mp nd2
 refine List.Pairwise.filterMap _ (fun a b hab x hx y hy e => hab ?_) this
 split at hx
 ·split at hy
  ·rename_i h1 h2
   simp only [Option.map_some, Option.some.injEq] at hx hy
   show (a.2.2, a.1) = (b.2.2, b.1)
   rw [h1, h2, hx, hy, e]
  ·cases hy
 ·cases hx
theorem VJ.ring {F : List Tri} {n : Nat} (h : VJ F n) {v : Int} (h0 : 0 ≤ v) (h1 : v < n) : ∃ x q cl, RingG (lnk v (spokes F)) x q cl := by
 obtain ⟨t, ht, e⟩ := h.has v h0 h1
 refine ringG_ex (lnk_fnd h.nd v) (lnk_snd h.nd v) fun z => ?_
 have : t.2 ∈ lnk v (spokes F) := mem_lnk.mpr (by rw [<- e]; exact ht)
 rw [z] at this
 cases this
theorem nbL_le {F : List Tri} (v : Int) : (nbL F v).length ≤ 2 * (lnk v (spokes F)).length := by
 unfold nbL
 have := nodup_in_len (l := sortU ((lnk v (spokes F)).map (·.1) ++ (lnk v (spokes F)).map (·.2))) (r := (lnk v (spokes F)).map (·.1) ++ (lnk v (spokes F)).map (·.2)) ((sortU_rises _).imp fun h => Int.ne_of_lt h) fun x hx => sortU_mem.mp hx
 rw [List.length_append, List.length_map, List.length_map] at this
 omega
def Pin (F : List Tri) (v : Int) : Prop := ∃ x q cl, RingG (lnk v (spokes F)) x q cl /\ (x :: q).length < (nbL F v).length
def Crw (F : List Tri) (v : Int) : Prop := 8 < (nbL F v).length \/ (nbL F v).length < 3 /\ ¬ RimAt (spokes F) v
theorem ring_le {F : List Tri} {v x : Int} {q : List Int} {cl : Bool} (h : RingG (lnk v (spokes F)) x q cl) : (x :: q).length ≤ (nbL F v).length := nodup_in_len h.nd fun y hy => by
 unfold nbL
 rw [sortU_mem]
 exact h.sub y hy
theorem not_pin {F : List Tri} {v x : Int} {q : List Int} {cl : Bool} (h : RingG (lnk v (spokes F)) x q cl) (np : ¬ Pin F v) : (x :: q).length = (nbL F v).length /\ ∀ y ∈ (lnk v (spokes F)).map (·.1) ++ (lnk v (spokes F)).map (·.2), y ∈ x :: q := by
 have a := ring_le h
 have b : ¬ (x :: q).length < (nbL F v).length := fun z => np ⟨x, q, cl, h, z⟩
 refine ⟨by omega, fun y hy => Classical.byContradiction fun w => ?_⟩
 have hy : y ∈ nbL F v := by unfold nbL; rw [sortU_mem]; exact hy
 have : (y :: x :: q).length ≤ (nbL F v).length := nodup_in_len (List.nodup_cons.mpr ⟨w, h.nd⟩) fun z hz => by
  rcases List.mem_cons.mp hz with e | e
  ·rw [e]; exact hy
  ·unfold nbL; rw [sortU_mem]; exact h.sub z e
 rw [List.length_cons] at this
 omega
theorem rim_ring {F : List Tri} {v x : Int} {q : List Int} {cl : Bool} (h : RingG (lnk v (spokes F)) x q cl) (all : ∀ y ∈ (lnk v (spokes F)).map (·.1) ++ (lnk v (spokes F)).map (·.2), y ∈ x :: q) : cl = true ↔ ¬ RimAt (spokes F) v := by
 rw [h.closed all]
 have mk : ∀ y, y ∈ (lnk v (spokes F)).map (·.1) ↔ (v, y) ∈ (spokes F).map way := by
  intro y
  rw [List.mem_map, List.mem_map]
  constructor
  ·rintro ⟨p, hp, rfl⟩; exact ⟨_, mem_lnk.mp hp, rfl⟩
  ·rintro ⟨t, ht, e⟩
   have e : (t.1, t.2.1) = (v, y) := e
   rw [Prod.mk.injEq] at e
   exact ⟨t.2, mem_lnk.mpr (by rw [<- e.1]; exact ht), e.2⟩
 have mv : ∀ y, y ∈ (lnk v (spokes F)).map (·.2) ↔ (y, v) ∈ (spokes F).map way := by
  intro y
  rw [List.mem_map, List.mem_map]
  constructor
  ·rintro ⟨p, hp, rfl⟩
   exact ⟨_, spokes_rot _ (spokes_rot _ (mem_lnk.mp hp)), rfl⟩
  ·rintro ⟨t, ht, e⟩
   have e : (t.1, t.2.1) = (y, v) := e
   rw [Prod.mk.injEq] at e
   have m := spokes_rot _ ht
   exact ⟨(t.2.2, t.1), mem_lnk.mpr (by rw [<- e.2]; exact m), e.1⟩
 constructor
 ·rintro ⟨h1, h2⟩ ⟨t, ht, e, hn⟩
  rcases e with e | e
  ·refine hn ?_
   have := h1 t.2.1 ((mk _).mpr (List.mem_map.mpr ⟨t, ht, by rw [<- e]; rfl⟩))
   rw [mv, <- e] at this
   exact this
  ·refine hn ?_
   have := h2 t.1 ((mv _).mpr (List.mem_map.mpr ⟨t, ht, by rw [<- e]; rfl⟩))
   rw [mk, <- e] at this
   exact this
 ·intro hn
  constructor
  ·intro y hy
   obtain ⟨t, ht, e⟩ := List.mem_map.mp ((mk y).mp hy)
   have e : (t.1, t.2.1) = (v, y) := e
   rw [Prod.mk.injEq] at e
   rw [mv]
   refine Classical.byContradiction fun w => hn ⟨t, ht, .inl e.1, ?_⟩
   rw [e.1, e.2]
   exact w
  ·intro y hy
   obtain ⟨t, ht, e⟩ := List.mem_map.mp ((mv y).mp hy)
   have e : (t.1, t.2.1) = (y, v) := e
   rw [Prod.mk.injEq] at e
   rw [mk]
   refine Classical.byContradiction fun w => hn ⟨t, ht, .inr e.2, ?_⟩
   rw [e.1, e.2]
   exact w
theorem nd_of_map {α β : Type} {f : α -> β} {L : List α} (h : (L.map f).Nodup) : L.Nodup := (List.pairwise_map.mp h).imp fun h e => h (congrArg f e)
theorem ring_row {F : List Tri} {n : Nat} (h : VJ F n) {v : Int} {x : Int} {q : List Int} {cl : Bool} (hr : RingG (lnk v (spokes F)) x q cl) (np : ¬ Pin F v) (nc : ¬ Crw F v) : Row (lnk v (spokes F)) (x :: q) cl := by
 obtain ⟨e1, all⟩ := not_pin hr np
 have rim := rim_ring hr all
 have h8 : (nbL F v).length ≤ 8 := Classical.byContradiction fun z => nc (.inl (by omega))
 have last := hr.adv (j := q.length) (by simp)
 rw [dif_neg (by simp)] at last
 have irr : ∀ a b, (a, b) ∈ lnk v (spokes F) -> a ≠ b := fun a b hab => by
  have := h.irr _ (spokes_rot _ (mem_lnk.mp hab))
  exact this
 have mem : ∀ p, p ∈ lnk v (spokes F) ↔ p ∈ stp (x :: q) cl := by
  intro p
  obtain ⟨a, b⟩ := p
  have wl : ∃ t, wlk (x :: q) cl = (x :: q) ++ t /\ (cl = true -> t = [x]) /\ (cl = false -> t = []) := by
   unfold wlk
   cases cl with
   | true => exact ⟨[x], by simp, fun _ => rfl, fun z => (by cases z)⟩
   | false => exact ⟨[], by simp, fun z => (by cases z), fun _ => rfl⟩
  obtain ⟨t, et, tt, tf⟩ := wl
  unfold stp
  rw [et]
  constructor
  ·intro hab
   have ha := all a (List.mem_append_left _ (List.mem_map.mpr ⟨_, hab, rfl⟩))
   obtain ⟨j, hj, ea⟩ := List.mem_iff_getElem.mp ha
   have nx := (nxt_mem hr.fnd).mpr hab
   have adv := hr.adv hj
   rw [ea, nx] at adv
   by_cases hj1 : j + 1 < (x :: q).length
   ·rw [dif_pos hj1] at adv
    have eb := Option.some.inj adv
    have e : x :: q = (x :: q).take j ++ (x :: q)[j] :: (x :: q)[j + 1] :: (x :: q).drop (j + 2) := by
     rw [<- List.drop_eq_getElem_cons hj1, <- List.drop_eq_getElem_cons (by omega), List.take_append_drop]
    rw [ea, <- eb] at e
    have e2 : (x :: q) ++ t = (x :: q).take j ++ a :: b :: ((x :: q).drop (j + 2) ++ t) := by
     have := congrArg (· ++ t) e
     simp only [List.append_assoc, List.cons_append] at this
     exact this
    rw [e2]
    exact pth_in _ _
   ·rw [dif_neg hj1] at adv
    cases cl with
    | false => cases adv
    | true =>
     have eb : b = x := Option.some.inj adv
     rw [tt rfl]
     have ej : j = q.length := by simp at hj hj1; omega
     have e : x :: q = (x :: q).take j ++ [(x :: q)[j]] := by
      rw [List.take_append_getElem hj]
      exact (List.take_of_length_le (by simp; omega)).symm
     rw [ea] at e
     have e2 : (x :: q) ++ [x] = (x :: q).take j ++ a :: b :: [] := by
      have := congrArg (· ++ [x]) e
      rw [List.append_assoc] at this
      rw [eb]
      exact this
     rw [e2]
     exact pth_in _ _
  ·intro hab
   obtain ⟨p, r, e⟩ := pth_mem hab
   have g1 : ((x :: q) ++ t)[p.length]? = some a := by rw [e]; simp
   have g2 : ((x :: q) ++ t)[p.length + 1]? = some b := by
    rw [e, List.getElem?_append_right (by omega), show p.length + 1 - p.length = 1 by omega]
    rfl
   refine (nxt_mem hr.fnd).mp ?_
   by_cases hj1 : p.length + 1 < (x :: q).length
   ·rw [List.getElem?_append_left (by omega), List.getElem?_eq_getElem (by omega)] at g1
    rw [List.getElem?_append_left hj1, List.getElem?_eq_getElem hj1] at g2
    have := hr.adv (j := p.length) (by omega)
    rw [dif_pos hj1, Option.some.inj g1, Option.some.inj g2] at this
    exact this
   ·cases cl with
    | false =>
     rw [tf rfl, List.append_nil] at g2
     have := (List.getElem?_eq_some_iff.mp g2).1
     omega
    | true =>
     rw [tt rfl] at g1 g2
     have := (List.getElem?_eq_some_iff.mp g2).1
     rw [List.length_append, List.length_singleton] at this
     have ep : p.length = q.length := by simp at hj1 this; omega
     have hlt : p.length < (x :: q).length := by simp; omega
     rw [List.getElem?_append_left hlt, List.getElem?_eq_getElem hlt] at g1
     rw [List.getElem?_append_right (by omega), show p.length + 1 - (x :: q).length = 0 by simp; omega] at g2
     have g2 : x = b := Option.some.inj g2
     have := hr.adv hlt
     rw [dif_neg (by simp; omega), Option.some.inj g1, if_pos rfl, g2] at this
     exact this
 have nd1 : (lnk v (spokes F)).Nodup := nd_of_map hr.fnd
 have nd2 : (stp (x :: q) cl).Nodup := by
  refine nd_of_map (f := fun p : Int × Int => p.1) ?_
  unfold stp
  rw [pth_fst]
  unfold wlk
  cases cl with
  | true =>
   show (((x :: q) ++ [x]).dropLast).Nodup
   rw [List.dropLast_concat]
   exact hr.nd
  | false => exact hr.nd.sublist (List.dropLast_sublist _)
 refine ⟨hr.nd, nodup_perm nd1 nd2 mem, ?_, by omega, fun e => ?_⟩
 ·cases q with
  | cons y q => simp
  | nil =>
   exfalso
   have last : nxt (lnk v (spokes F)) x = if cl then some x else none := last
   have xk := hr.xk
   cases cl with
   | true =>
    rw [if_pos rfl] at last
    exact irr x x ((nxt_mem hr.fnd).mp last) rfl
   | false =>
    rw [if_neg Bool.false_ne_true] at last
    exact nxt_none.mp last xk
 ·have nr := rim.mp e
  exact Classical.byContradiction fun z => nc (.inr ⟨by omega, nr⟩)
theorem vj_good {F : List Tri} {n : Nat} (h : VJ F n) (n3 : 3 ≤ n) (n24 : n ≤ 24) (f32 : F.length ≤ 32) (np : ∀ i : Nat, i < n -> ¬ Pin F i) (nc : ∀ i : Nat, i < n -> ¬ Crw F i) : Good F n := by
 refine ⟨⟨h.rng, h.irr, fun t ht => spokes_rot _ ht, h.nd, fun v v0 v1 => ?_⟩, n3, n24, h.f1, f32⟩
 obtain ⟨k, rfl⟩ := Int.eq_ofNat_of_zero_le v0
 obtain ⟨x, q, cl, hr⟩ := h.ring v0 v1
 exact ⟨_, _, ring_row h hr (np k (by omega)) (nc k (by omega))⟩
def SplitAt (F : List Tri) (n : Nat) : Prop := ∃ (v : Int) (A B : List (Int × Int)), 0 ≤ v /\ v < n /\ lnk v (spokes F) = A ++ B /\ A ≠ [] /\ B ≠ [] /\ ∀ p ∈ A, ∀ r ∈ B, p.1 ≠ r.1 /\ p.1 ≠ r.2 /\ p.2 ≠ r.1 /\ p.2 ≠ r.2
theorem split_pin {F : List Tri} {n : Nat} (h : VJ F n) (s : SplitAt F n) : ∃ v : Nat, v < n /\ Pin F v := by
 obtain ⟨v, A, B, v0, v1, eL, hA, hB, hd⟩ := s
 obtain ⟨k, rfl⟩ := Int.eq_ofNat_of_zero_le v0
 refine ⟨k, by omega, Classical.byContradiction fun np => ?_⟩
 obtain ⟨x, q, cl, hr⟩ := h.ring v0 v1
 obtain ⟨e1, all⟩ := not_pin hr np
 have go : ∀ (A B : List (Int × Int)), (∀ p, p ∈ lnk (k : Int) (spokes F) ↔ p ∈ A \/ p ∈ B) -> (∀ p ∈ A, ∀ r ∈ B, p.1 ≠ r.1 /\ p.1 ≠ r.2 /\ p.2 ≠ r.1 /\ p.2 ≠ r.2) -> B ≠ [] -> x ∈ A.map (·.1) -> False := by
  intro A B hm hd hB hx
  have side : ∀ j (hj : j < (x :: q).length), ∃ p ∈ A, p.1 = (x :: q)[j] \/ p.2 = (x :: q)[j] := by
   intro j
   induction j with
   | zero =>
    intro hj
    obtain ⟨p, hp, e⟩ := List.mem_map.mp hx
    exact ⟨p, hp, .inl e⟩
   | succ j ih =>
    intro hj
    obtain ⟨p, hp, e⟩ := ih (by omega)
    have adv := hr.adv (j := j) (by omega)
    rw [dif_pos hj] at adv
    have m := (nxt_mem hr.fnd).mp adv
    rcases (hm _).mp m with z | z
    ·exact ⟨_, z, .inr rfl⟩
    ·have := hd p hp _ z
     dsimp only at this
     rcases e with e | e
     ·exact absurd e this.1
     ·exact absurd e this.2.2.1
  obtain ⟨r, hrB⟩ := List.exists_mem_of_ne_nil _ hB
  have hr1 := all r.1 (List.mem_append_left _ (List.mem_map.mpr ⟨r, (hm r).mpr (.inr hrB), rfl⟩))
  obtain ⟨j, hj, e⟩ := List.mem_iff_getElem.mp hr1
  obtain ⟨p, hp, e2⟩ := side j hj
  have := hd p hp r hrB
  rw [e] at e2
  rcases e2 with e2 | e2
  ·exact this.1 e2
  ·exact this.2.2.1 e2
 have xk := hr.xk
 rw [eL, List.map_append] at xk
 rcases List.mem_append.mp xk with z | z
 ·exact go A B (fun p => by rw [eL, List.mem_append]) hd hB z
 ·exact go B A (fun p => by rw [eL, List.mem_append]; exact or_comm) (fun p hp r hr => by
   obtain ⟨a, b, c, d⟩ := hd r hr p hp
   exact ⟨a.symm, c.symm, b.symm, d.symm⟩) hA z
structure JN (F : List Tri) (n : Nat) : Prop where
 vj : VJ F n
 sp : SB ((spokes F).map way) (n + F.length) \/ SplitAt F n
theorem JN.fine {F : List Tri} {n : Nat} (h : JN F n) (n3 : 3 ≤ n) (n24 : n ≤ 24) (f32 : F.length ≤ 32) (np : ∀ i : Nat, i < n -> ¬ Pin F i) (nc : ∀ i : Nat, i < n -> ¬ Crw F i) : Fine F n := by
 refine ⟨vj_good h.vj n3 n24 f32 np nc, ?_⟩
 rcases h.sp with z | z
 ·exact z
 ·obtain ⟨v, hv, hp⟩ := split_pin h.vj z
  exact absurd hp (np v hv)
def gl (a n1 : Int) (v : Int) : Int := if v = 0 then a else n1 + (v - 1)
noncomputable def b_law_whole : ME -> MS := mRet (mAndV (mCall1 (gIsi "int") (mVar 0)) (mNotV (mCall1 (gIsi "bool") (mVar 0))))
noncomputable def m_law_whole : MF := fnM 0 b_law_whole
structure Prt (F : List Tri) : Prop where
 nd : ((spokes F).map way).Nodup
 f32 : F.length ≤ 300
 rng : ∀ t ∈ spokes F, 0 ≤ t.1 /\ t.1 < 1000000
theorem Prt.few {F : List Tri} (h : Prt F) {S : List Tri} (hs : ∀ t ∈ S, t ∈ spokes F) : (sidesU S).length ≤ 900 := by
 obtain ⟨h1, h2⟩ := sidesU_all S
 have := Cg.nodup_le h1 (m := (spokes F).map fun t => pr t.1 t.2.1) fun p hp => by
  obtain ⟨t, ht, e⟩ := (h2 p).mp hp
  exact List.mem_map.mpr ⟨t, hs t ht, e.symm⟩
 rw [List.length_map, spokes_len] at this
 have := h.f32
 omega
theorem Prt.small {F : List Tri} (h : Prt F) (t : Tri) (ht : t ∈ spokes F) : in64 (pr t.1 t.2.1) = true := by
 have h1 := h.rng t ht
 have h2 : 0 ≤ t.2.1 /\ t.2.1 < 1000000 := h.rng _ (spokes_rot t ht)
 unfold in64 pr
 simp only [Bool.and_eq_true, decide_eq_true_eq]
 refine ⟨⟨⟨?_, ?_⟩, ?_⟩, ?_⟩ <;> split <;> omega
theorem webp_wr {F : List Tri} (h : Prt F) (T : List IP) (Q : List Int) : WR (m_Web___init__ [.box (.ins "Web" [] []), .v (fD F), .v (tolD T), .v (bhD Q)]) fun s x => s = .v .non /\ ∃ N x', NestOk (spokes F) N /\ x = .box (webD F N ((allL F).filter fun p => decide (p ∈ T /\ InnerW (spokes F) p)) ((ckeys N).filter fun v => decide (v ∈ Q))) :: x' := by
 have hl := h.f32
 have nd := h.nd
 unfold m_Web___init__ b_Web___init__
 (refine wr_fnM ?_; refine ws_seq ?_; refine ws_fldS ?_; refine wr_v rfl ?_; refine ⟨_, dat_v, ?_⟩)
 refine ⟨"Web", [], [], rfl, by decide, by decide, ?_⟩
 have e1 : (D.ins "Web" (putNs "trios" []) (putDs "trios" (fD F) [] [])) = W0 ["trios"] [fD F] := by kernel_rfl
 rw [e1]
 (refine ws_seq ?_; refine ws_fldS ?_)
 refine wr_fn' (wl_cons ?_)
 (refine wr_v rfl ?_; refine ⟨_, dat_v, ?_⟩; refine wl_nil ?_)
 rw [thirds_eq]
 refine (ways_wr nd (by omega)).mono fun s x hs => ?_
 subst hs
 refine ⟨⟨_, rfl⟩, ?_⟩
 (refine ⟨_, dat_v, ?_⟩)
 refine ⟨"Web", ["trios"], [fD F], rfl, by decide, by decide, ?_⟩
 have e2 : (D.ins "Web" (putNs "third" ["trios"]) (putDs "third" (waysD (spokes F)) ["trios"] [fD F])) = W0 ["trios", "third"] [fD F, waysD (spokes F)] := by kernel_rfl
 rw [e2]
 (refine ws_seq ?_; refine ws_fldS ?_)
 refine wr_fn' (wl_cons ?_)
 (refine wr_v rfl ?_; refine ⟨_, dat_v, ?_⟩; refine wl_nil ?_)
 refine (following_wr nd (by omega)).mono fun s x hs => ?_
 obtain ⟨N, rfl, hN⟩ := hs
 refine ⟨⟨_, rfl⟩, ?_⟩
 (refine ⟨_, dat_v, ?_⟩)
 refine ⟨"Web", ["trios", "third"], [fD F, waysD (spokes F)], rfl, by decide, by decide, ?_⟩
 have e3 : (D.ins "Web" (putNs "after" ["trios", "third"]) (putDs "after" (aftD N) ["trios", "third"] [fD F, waysD (spokes F)])) = W0 ["trios", "third", "after"] [fD F, waysD (spokes F), aftD N] := by kernel_rfl
 rw [e3]
 (refine ws_seq ?_; refine ws_fldS ?_)
 refine wr_sortScKI (dd := waysD (spokes F)) (by kernel_rfl) (ways_keys _) rfl (fun j acc ρ => acc = sidesU ((spokes F).take j) /\ ρ = [.box (W0 ["trios", "third", "after"] [fD F, waysD (spokes F), aftD N]), .v (fD F), .v (tolD T), .v (bhD Q), .no, .no, .no, .no]) ⟨rfl, rfl⟩ ?_ ?_
 ·rintro j hj acc ρ ⟨rfl, rfl⟩
  have hj' : j < (spokes F).length := by simpa using hj
  rw [List.getElem_map]
  have few := h.few (S := (spokes F).take j) fun t ht => List.mem_of_mem_take ht
  have e4 : sidesU ((spokes F).take (j + 1)) = addU (sidesU ((spokes F).take j)) (pr (spokes F)[j].1 (spokes F)[j].2.1) := by
   rw [List.take_succ_eq_append_getElem hj', sidesU_snoc]
  refine ⟨_, rfl, ?_⟩
  (refine wb_yes ?_)
  refine ⟨fun _ => ?_, fun z => (by cases z)⟩
  refine wr_fn' (wl_cons ?_)
  (refine wr_v rfl ?_; refine ⟨_, dat_v, ?_⟩; refine wl_cons ?_; refine wr_v rfl ?_; refine ⟨_, dat_v, ?_⟩; refine wl_nil ?_)
  refine (pair_wr _ _).mono fun s x hs => ?_
  subst hs
  exact ⟨⟨_, rfl⟩, _, rfl, _, rfl, by omega, by rw [e4]; rfl, rfl⟩
 rintro acc ρ2 ⟨rfl, rfl⟩
 rw [List.length_map, List.take_length]
 refine ⟨?_, ?_⟩
 ·rw [List.all_eq_true]
  intro p hp
  obtain ⟨t, ht, rfl⟩ := ((sidesU_all _).2 p).mp hp
  exact h.small t ht
 (refine ⟨_, dat_o, ?_⟩)
 refine ⟨"Web", ["trios", "third", "after"], [fD F, waysD (spokes F), aftD N], rfl, by decide, by decide, ?_⟩
 have e5 : (D.ins "Web" (putNs "pairs" ["trios", "third", "after"]) (putDs "pairs" (.lst ((allL F).map pD)) ["trios", "third", "after"] [fD F, waysD (spokes F), aftD N])) = W0 ["trios", "third", "after", "pairs"] [fD F, waysD (spokes F), aftD N, .lst ((allL F).map pD)] := by kernel_rfl
 rw [show sortP (sidesU (spokes F)) = allL F from rfl, e5]
 have few : (allL F).length ≤ 900 := by
  unfold allL
  rw [(sortP_perm _).length_eq]
  exact h.few fun t ht => ht
 refine ws_seq (ws_fldS ?_)
 refine wr_dcI ?_
 refine wi_lst (wr_fldV (e := .lst ((allL F).map pD)) rfl (by kernel_rfl) ⟨_, rfl, _, rfl, ?_⟩)
 refine ⟨rfl, fun j acc ρ => acc = tolD (((allL F).take j).filter fun p => decide (p ∈ T /\ InnerW (spokes F) p)) /\ ρ = [.box (W0 ["trios", "third", "after", "pairs"] [fD F, waysD (spokes F), aftD N, .lst ((allL F).map pD)]), .v (fD F), .v (tolD T), .v (bhD Q), .no, .no, .no, .no], ⟨by unfold tolD; rfl, rfl⟩, ?_, ?_⟩
 ·rintro j hj acc ρ ⟨rfl, rfl⟩
  have hj' : j < (allL F).length := by simpa using hj
  rw [List.getElem_map]
  have stp := take_snoc (p := fun p => decide (p ∈ T /\ InnerW (spokes F) p)) hj'
  generalize hp : (allL F)[j] = p at stp ⊢
  have fresh : p ∉ ((allL F).take j).filter fun p => decide (p ∈ T /\ InnerW (spokes F) p) := fun z => by
   have ndA : (allL F).Nodup := (sortP_perm _).nodup_iff.mpr (sidesU_all _).1
   have : ((allL F).take (j + 1)).Nodup := ndA.sublist (List.take_sublist _ _)
   rw [List.take_succ_eq_append_getElem hj', hp, List.nodup_append] at this
   exact this.2.2 p ((List.mem_filter.mp z).1) p (by simp) rfl
  have hlen : (((allL F).take j).filter fun p => decide (p ∈ T /\ InnerW (spokes F) p)).length < 900000 := by
   have := List.length_filter_le (fun p => decide (p ∈ T /\ InnerW (spokes F) p)) ((allL F).take j)
   rw [List.length_take] at this
   omega
  refine ⟨_, rfl, ?_⟩
  (refine wb_and ?_; refine wb_tst ?_; refine wr_inV ?_; refine wr_v rfl ?_; refine ⟨_, dat_v, ?_⟩)
  refine ⟨_, _, rfl, tol_gIn T p, ?_⟩
  (refine ex_bl ?_)
  refine ⟨fun e => ?_, fun e => ⟨(fun z => (by cases z)), fun _ => ?_⟩⟩
  ·have e := of_decide_eq_true e
   (refine wb_tst ?_)
   refine wr_methO (f := m_Web_is_inner) (.inr rfl) (by kernel_rfl) ?_
   (refine wl_cons ?_; refine wr_v rfl ?_; refine ⟨_, dat_v, ?_⟩; refine wl_nil ?_; refine ex_held rfl ?_)
   refine (inner_m (S := spokes F) (.inr rfl) (by kernel_rfl) p).mono fun s x hs => ?_
   obtain ⟨rfl, x', rfl⟩ := hs
   refine ⟨⟨_, rfl⟩, _, _, rfl, ?_⟩
   (refine ex_bl ?_)
   refine ⟨fun e2 => ?_, fun e2 => ?_⟩
   ·have e2 := of_decide_eq_true e2
    (refine wr_v rfl ?_; refine ⟨_, dat_v, ?_⟩; refine wr_c ?_; refine ⟨_, dat_v, ?_⟩)
    refine ⟨_, tol_put _ p hlen, ?_, rfl⟩
    rw [stp, decide_eq_true ⟨e, e2⟩, if_pos rfl]
    unfold addU
    rw [if_neg fresh]
   ·have e2 := of_decide_eq_false e2
    refine ⟨?_, rfl⟩
    rw [stp, decide_eq_false fun z => e2 z.2, if_neg (by simp), List.append_nil]
  ·have e := of_decide_eq_false e
   refine ⟨?_, rfl⟩
   rw [stp, decide_eq_false fun z => e z.1, if_neg (by simp), List.append_nil]
 rintro acc ρ2 ⟨rfl, rfl⟩
 rw [List.length_map, List.take_length]
 generalize hT : (allL F).filter (fun p => decide (p ∈ T /\ InnerW (spokes F) p)) = T'
 refine ⟨_, rfl, "Web", ["trios", "third", "after", "pairs"], [fD F, waysD (spokes F), aftD N, .lst ((allL F).map pD)], rfl, by decide, by decide, ?_⟩
 have e6 : (D.ins "Web" (putNs "told" ["trios", "third", "after", "pairs"]) (putDs "told" (tolD T') ["trios", "third", "after", "pairs"] [fD F, waysD (spokes F), aftD N, .lst ((allL F).map pD)])) = W0 ["trios", "third", "after", "pairs", "told"] [fD F, waysD (spokes F), aftD N, .lst ((allL F).map pD), tolD T'] := by kernel_rfl
 rw [e6]
 refine ws_fldS ?_
 obtain ⟨k1, k2, k3⟩ := hN.ck
 refine wr_dcKI (dd := aftD N) (by kernel_rfl) (aft_keys hN) rfl (fun j acc ρ => acc = bhD (((ckeys N).take j).filter fun v => decide (v ∈ Q)) /\ ρ = [.box (W0 ["trios", "third", "after", "pairs", "told"] [fD F, waysD (spokes F), aftD N, .lst ((allL F).map pD), tolD T']), .v (fD F), .v (tolD T), .v (bhD Q), .no, .no, .no, .no]) ⟨by unfold bhD; rfl, rfl⟩ ?_ ?_
 ·rintro j hj acc ρ ⟨rfl, rfl⟩
  have hj' : j < (ckeys N).length := by simpa using hj
  rw [List.getElem_map]
  have stp := take_snoc (p := fun v => decide (v ∈ Q)) hj'
  generalize hp : (ckeys N)[j] = v at stp ⊢
  have fresh : v ∉ ((ckeys N).take j).filter fun v => decide (v ∈ Q) := fun z => by
   have : ((ckeys N).take (j + 1)).Nodup := k2.sublist (List.take_sublist _ _)
   rw [List.take_succ_eq_append_getElem hj', hp, List.nodup_append] at this
   exact this.2.2 v ((List.mem_filter.mp z).1) v (by simp) rfl
  have clen : (ckeys N).length ≤ 900 := by
   have := Cg.nodup_le k2 (m := (spokes F).map (·.1)) fun v hv => by
    obtain ⟨t, ht, e⟩ := (k3 v).mp hv
    exact List.mem_map.mpr ⟨t, ht, e⟩
   rw [List.length_map, spokes_len] at this
   omega
  have hlen : (((ckeys N).take j).filter fun v => decide (v ∈ Q)).length < 900000 := by
   have := List.length_filter_le (fun v => decide (v ∈ Q)) ((ckeys N).take j)
   rw [List.length_take] at this
   omega
  refine ⟨_, rfl, ?_⟩
  (refine wb_tst ?_; refine wr_inV ?_; refine wr_v rfl ?_; refine ⟨_, dat_v, ?_⟩)
  refine ⟨_, _, rfl, bh_gIn Q v, ?_⟩
  (refine ex_bl ?_)
  refine ⟨fun e => ?_, fun e => ?_⟩
  ·(refine wr_v rfl ?_; refine ⟨_, dat_v, ?_⟩; refine wr_c ?_; refine ⟨_, dat_v, ?_⟩)
   exact ⟨_, bh_put fresh hlen, by rw [stp, e, if_pos rfl], rfl⟩
  ·exact ⟨by rw [stp, e, if_neg (by simp), List.append_nil], rfl⟩
 rintro acc ρ2 ⟨rfl, rfl⟩
 rw [List.length_map, List.take_length]
 refine ⟨_, rfl, "Web", ["trios", "third", "after", "pairs", "told"], [fD F, waysD (spokes F), aftD N, .lst ((allL F).map pD), tolD T'], rfl, by decide, by decide, ?_⟩
 refine ⟨rfl, N, [.v (fD F), .v (tolD T), .v (bhD Q), .no, .no, .no, .no], hN, ?_⟩
 unfold webD
 kernel_rfl
theorem nbrd_wr {F : List Tri} {v : Int} (fn : ((lnk v (spokes F)).map (·.1)).Nodup) (hLl : (lnk v (spokes F)).length ≤ 8) {N : NC} {T : List IP} {Q : List Int} (hN : NestOk (spokes F) N) {s : Mp.Slot} (hs : Slf s (webD F N T Q)) (hv : ∃ t ∈ spokes F, t.1 = v) : WR (m_Web_neighbours [s, .v (.int v)]) fun r y => r = .own (.lst ((nbL F v).map D.int)) /\ ∃ y', y = s :: y' := by
 have ea := aft_at hN hv
 unfold nbL
 generalize lnk v (spokes F) = L at fn hLl ea
 unfold m_Web_neighbours b_Web_neighbours
 (refine wr_fnM ?_; refine ws_seq ?_; refine ws_set1 ?_; refine wr_ix ?_)
 refine wr_fldV (hs.slot _) web_after ⟨_, rfl, ?_⟩
 (refine wr_v rfl ?_; refine ⟨_, dat_v, ?_⟩)
 refine ⟨_, ea, ?_⟩
 ((refine ⟨rfl, ?_⟩); refine ws_ret ?_; refine wr_sortSet ?_; refine wr_op ?_; refine wr_callV rfl ?_)
 refine ⟨_, af_list L, ?_⟩
 (refine ⟨_, dat_o, ?_⟩)
 refine wr_lcKI rfl (af_keys L) rfl (by rw [List.length_map, List.length_map]; omega) (fun j acc ρ => acc = ((L.take j).map (·.2)).map D.int /\ ρ = [s, .v (.int v), .v (afD L), .no]) ⟨rfl, rfl⟩ ?_ ?_
 ·rintro j hj acc ρ ⟨rfl, rfl⟩
  have hj' : j < L.length := by simpa using hj
  rw [List.getElem_map, List.getElem_map]
  have hn : nxt L L[j].1 = some L[j].2 := (nxt_mem fn).mpr (List.getElem_mem hj')
  refine ⟨_, rfl, ?_⟩
  (refine wb_yes ?_)
  refine ⟨fun _ => ?_, fun z => (by cases z)⟩
  (refine wr_ixV rfl ?_; refine wr_v rfl ?_; refine ⟨_, dat_v, ?_⟩)
  refine ⟨_, _, rfl, af_at hn, ?_⟩
  (refine ⟨_, dat_v, ?_⟩)
  exact ⟨by rw [List.take_succ_eq_append_getElem hj', List.map_append, List.map_append]; rfl, rfl⟩
 rintro acc ρ2 ⟨rfl, rfl⟩
 rw [List.length_map, List.length_map, List.take_length]
 (refine ⟨_, dat_o, ?_⟩)
 refine ⟨_, gAdd_l (by simp only [List.length_map]; omega), ?_⟩
 (refine ⟨_, dat_o, ?_⟩)
 rw [<- List.map_append]
 refine ⟨_, rfl, by simp only [List.length_append, List.length_map]; omega, ?_⟩
 exact ⟨rfl, _, rfl⟩
theorem edgedd_wr {F : List Tri} {v : Int} (fn : ((lnk v (spokes F)).map (·.1)).Nodup) (hLl : (lnk v (spokes F)).length ≤ 8) {N : NC} {T : List IP} {Q : List Int} (hN : NestOk (spokes F) N) {s : Mp.Slot} (hs : Slf s (webD F N T Q)) (hv : ∃ t ∈ spokes F, t.1 = v) : WR (m_Web_edged [s, .v (.int v)]) fun r y => r = .own (.lst ((shpL F T v).map D.int)) /\ ∃ y', y = s :: y' := by
 unfold m_Web_edged b_Web_edged
 (refine wr_fnM ?_; refine ws_ret ?_)
 refine wr_lcI ?_
 (refine wi_lst ?_)
 refine wr_self hs (pick_web (ml := [("Web", m_Web_neighbours)]) (x := "neighbours") (by decide) rfl) ?_
 (refine wl_cons ?_; refine wr_v rfl ?_; refine ⟨_, dat_v, ?_⟩; refine wl_nil ?_)
 refine ⟨_, rfl, (nbrd_wr fn hLl hN hs hv).mono fun r y h => ?_⟩
 obtain ⟨rfl, y', rfl⟩ := h
 refine ⟨⟨_, rfl⟩, ⟨_, rfl⟩, ?_⟩
 (refine ⟨_, dat_o, ?_⟩; refine ex_lst ?_)
 have nl : (nbL F v).length < 1000 := by
  have := nbL_le (F := F) v
  omega
 refine ⟨rfl, by rw [List.length_map]; omega, fun j acc ρ => acc = (((nbL F v).take j).filter fun u => shpP F T (pr v u)).map D.int /\ ρ = [s, .v (.int v), .no], ⟨rfl, rfl⟩, ?_, ?_⟩
 ·rintro j hj acc ρ ⟨rfl, rfl⟩
  have hj' : j < (nbL F v).length := by simpa using hj
  have stp := take_snoc (p := fun u => shpP F T (pr v u)) hj'
  rw [List.getElem_map]
  generalize (nbL F v)[j] = u at stp ⊢
  refine ⟨_, rfl, ?_⟩
  (refine wb_tst ?_)
  refine wr_self hs (pick_web (ml := [("Web", m_Web_is_sharp)]) (x := "is_sharp") (by decide) rfl) ?_
  (refine wl_cons ?_)
  refine wr_fn' (wl_cons ?_)
  (refine wr_v rfl ?_; refine ⟨_, dat_v, ?_⟩; refine wl_cons ?_; refine wr_v rfl ?_; refine ⟨_, dat_v, ?_⟩; refine wl_nil ?_)
  refine (pair_wr _ _).mono fun r y h => ?_
  subst h
  refine ⟨⟨_, rfl⟩, ?_⟩
  (refine ⟨_, dat_v, ?_⟩; refine wl_nil ?_)
  refine ⟨_, rfl, (sharp_wr hs _).mono fun r y h => ?_⟩
  obtain ⟨rfl, y', rfl⟩ := h
  refine ⟨⟨_, rfl⟩, ⟨_, rfl⟩, ?_⟩
  (refine ex_bl ?_)
  refine ⟨fun e => ?_, fun e => ?_⟩
  ·(refine wr_v rfl ?_; refine ⟨_, dat_v, ?_⟩)
   exact ⟨by rw [stp, e, if_pos rfl, List.map_append]; rfl, rfl⟩
  ·exact ⟨by rw [stp, e, if_neg (by simp), List.append_nil], rfl⟩
 rintro acc ρ2 ⟨rfl, rfl⟩
 rw [List.length_map, List.take_length]
 exact ⟨rfl, _, rfl⟩
theorem sortd_wr {F : List Tri} {v : Int} (fn : ((lnk v (spokes F)).map (·.1)).Nodup) (hLl : (lnk v (spokes F)).length ≤ 8) {N : NC} {T : List IP} {Q : List Int} (hN : NestOk (spokes F) N) {s : Mp.Slot} (hs : Slf s (webD F N T Q)) (hv : ∃ t ∈ spokes F, t.1 = v) : WR (m_Web_sort_of [s, .v (.int v)]) fun r y => r = .v (.str (kindS (decide (v ∈ Q)) (shpL F T v).length)) /\ ∃ y', y = s :: y' := by
 unfold m_Web_sort_of b_Web_sort_of
 (refine wr_fnM ?_; refine ws_seq ?_; refine ws_set1 ?_; refine wr_call1 ?_)
 refine wr_self hs (pick_web (ml := [("Web", m_Web_edged)]) (x := "edged") (by decide) rfl) ?_
 (refine wl_cons ?_; refine wr_v rfl ?_; refine ⟨_, dat_v, ?_⟩; refine wl_nil ?_)
 refine ⟨_, rfl, (edgedd_wr fn hLl hN hs hv).mono fun r y h => ?_⟩
 obtain ⟨rfl, y', rfl⟩ := h
 refine ⟨⟨_, rfl⟩, ⟨_, rfl⟩, ?_⟩
 (refine ⟨_, dat_o, ?_⟩; refine ⟨_, gLen_l, ?_⟩; (refine ⟨rfl, ?_⟩); refine ws_seq ?_; refine ws_if ?_; refine wb_or ?_; refine wb_tst ?_; refine wr_op ?_; refine wr_v rfl ?_; refine ⟨_, dat_v, ?_⟩)
 refine wr_fldV (hs.slot _) web_quick ⟨_, rfl, _, bh_gIn Q v, ?_⟩
 (refine ex_bl ?_)
 rw [List.length_map]
 refine ⟨fun e => ⟨fun _ => ?_, fun z => (by cases z)⟩, fun e => ?_⟩
 ·(refine ws_ret ?_; refine wr_c ?_)
  exact ⟨by unfold kindS; rw [if_pos (.inl e)], _, rfl⟩
 (refine wb_tst ?_; refine wr_op ?_; refine wr_v rfl ?_; refine ⟨_, dat_v, ?_⟩; refine wr_c ?_; refine ⟨_, dat_v, ?_⟩; refine ⟨_, gGt_ii, ?_⟩; refine ex_bl ?_)
 refine ⟨fun e2 => ?_, fun e2 => ?_⟩
 ·have e2 := of_decide_eq_true e2
  (refine ws_ret ?_; refine wr_c ?_)
  exact ⟨by unfold kindS; rw [if_pos (.inr (by omega))], _, rfl⟩
 ·have e2 := of_decide_eq_false e2
  (refine ws_skip ?_; refine ws_ret ?_; refine wr_ix ?_; refine wr_tup ?_; refine wl_cons ?_; refine wr_c ?_; refine ⟨_, dat_v, ?_⟩; refine wl_cons ?_; refine wr_c ?_; refine ⟨_, dat_v, ?_⟩; refine wl_cons ?_; refine wr_c ?_; refine ⟨_, dat_v, ?_⟩; refine wl_nil ?_; refine ⟨_, dat_v, ?_⟩; refine wr_v rfl ?_; refine ⟨_, dat_v, ?_⟩)
  refine ⟨_, (ix_kind (by omega)).1, ?_⟩
  exact ⟨by rw [e], _, rfl⟩
noncomputable def b_divisor : ME -> MS := (mSeq (mPar [0, 1] (mCons (mCall (g1 gAbs) (mCons (mVar 0) mNil)) (mCons (mCall (g1 gAbs) (mCons (mVar 1) mNil)) mNil))) (mSeq (mWhile (mTst (mOp gGt (mVar 1) (mC (.int 0))))
 (mPar [0, 1] (mCons (mVar 1) (mCons (mOp gMod (mVar 0) (mVar 1)) mNil)))) (mRet (mVar 0))))
noncomputable def m_divisor : MF := fnM 0 b_divisor
noncomputable def b_divisor_of : ME -> MS := (mSeq (mSet 1 (mC (.int 0))) (mSeq (mFor (mItL (mVar 0)) (tgName 2)
 (mSet 1 (mFn m_divisor (mCons (mVar 1) (mCons (mVar 2) mNil))))) (mRet (mVar 1))))
noncomputable def m_divisor_of : MF := fnM 2 b_divisor_of
noncomputable def b_multiple_of : ME -> MS := (mSeq (mSet 1 (mC (.int 1))) (mSeq (mFor (mItL (mVar 0)) (tgName 2)
 (mSet 1 (mOp gMulA (mOp gFdv (mVar 1) (mFn m_divisor (mCons (mVar 1) (mCons (mVar 2) mNil)))) (mVar 2)))) (mRet (mVar 1))))
noncomputable def m_multiple_of : MF := fnM 2 b_multiple_of
noncomputable def b_blend : ME -> MS := (mSeq (mSet 2 (mFn m_multiple_of (mCons (mLc (mItL (mVar 0)) (tgTup 2 (tgCons (tgName 4) (tgCons (tgName 10) tgNil))) mYes (mIxV 10 (mC (.int 0))) [4, 10]) mNil))) (mSeq (mSet 3 mNewK) (mSeq (mFor (mItL (mVar 0)) (tgTup 2 (tgCons (tgName 4) (tgCons (tgTup 2 (tgCons (tgName 5) (tgCons (tgName 6) tgNil))) tgNil)))
 (mFor (mItA (mVar 6)) (tgTup 2 (tgCons (tgName 7) (tgCons (tgName 8) tgNil)))
 (mPut 3 (mVar 7) (mOp gAdd (mGetV 3 (mVar 7) (mC (.int 0))) (mOp gMulA (mOp gMulA (mVar 4) (mVar 8)) (mOp gFdv (mVar 2) (mVar 5))))))) (mSeq (mSet 6 (mLc (mItL (mCallV gSortedK 3)) (tgName 7) (mTst (mOp gGt (mIxV 3 (mVar 7)) (mC (.int 0)))) (mTup (mCons (mVar 7) (mCons (mIxV 3 (mVar 7)) mNil))) [7])) (mSeq (mSet 9 (mFn m_divisor_of (mCons (mLc (mItA (mVar 6)) (tgTup 2 (tgCons (tgName 7) (tgCons (tgName 8) tgNil))) mYes (mVar 8) [7, 8]) mNil))) (mRet (mTup (mCons (mOp gFdv (mOp gMulA (mVar 1) (mVar 2)) (mVar 9)) (mCons (mCall (g1 gTuple) (mCons (mLc (mItA (mVar 6)) (tgTup 2 (tgCons (tgName 7) (tgCons (tgName 8) tgNil))) mYes (mTup (mCons (mVar 7) (mCons (mOp gFdv (mVar 8) (mVar 9)) mNil))) [7, 8]) mNil)) mNil)))))))))
noncomputable def m_blend : MF := fnM 9 b_blend
noncomputable def b_made : ME -> MS := (mSeq (mAsg (tgTup 2 (tgCons (tgName 2) (tgCons (tgName 3) tgNil))) (mVar 0)) (mRet (mFn m_blend (mCons (mLc (mItL (mVar 2)) (tgTup 2 (tgCons (tgName 4) (tgCons (tgName 5) tgNil))) mYes (mTup (mCons (mVar 4) (mCons (mIxV 1 (mVar 5)) mNil))) [4, 5]) (mCons (mVar 3) mNil)))))
noncomputable def m_made : MF := fnM 4 b_made
noncomputable def b_part_of : ME -> MS := (mSeq (mSet 2 (mLc (mItL (mFldV ctab_Web "trios" 0)) (tgName 3) (mOrB (mTst (mInV gInA (mIxV 3 (mC (.int 0))) 1)) (mOrB (mTst (mInV gInA (mIxV 3 (mC (.int 1))) 1)) (mTst (mInV gInA (mIxV 3 (mC (.int 2))) 1)))) (mVar 3) [3])) (mRet (mMake "Web" ar_Web m_Web___init__ (mCons (mVar 2) (mCons (mFldV ctab_Web "told" 0) (mCons (mFldV ctab_Web "quick" 0) mNil))) mNil)))
noncomputable def m_part_of : MF := fnM 2 b_part_of
noncomputable def b_end_shares : ME -> MS := (mSeq (mSet 2 (mMethV [("Web", m_Web_ring)] "ring" 0 (mCons (mVar 1) mNil))) (mSeq (mSet 3 (mIdxV 2 (mIx (mMethV [("Web", m_Web_edged)] "edged" 0 (mCons (mVar 1) mNil)) (mC (.int 0))))) (mSeq (mSet 2 (mOp gAdd (mSlV 2 (mPart (mVar 3)) mNoPart) (mSlV 2 mNoPart (mPart (mVar 3))))) (mSeq (mSet 4 (mCallV gLen 2)) (mSeq (mPar [5, 6] (mCons (mC (.int 3)) (mCons (mVar 4) mNil))) (mSeq (mIfS (mTst (mOp gEq (mVar 4) (mC (.int 3))))
 (mAsg (tgTup 2 (tgCons (tgName 5) (tgCons (tgName 6) tgNil))) (mTup (mCons (mC (.int 3)) (mCons (mC (.int 2)) mNil))))
 mSkip) (mSeq (mTwo 7 8 [0, 1] [0, 0]) (mSeq (mFor (mRng2 (mCons (mC (.int 1)) (mCons (mVar 4) mNil))) (tgName 9)
 (mSeq (mDrop (mApp 7 (mOp gSub (mOp gMulA (mC (.int 5)) (mIxV 7 (mVar 9))) (mIxV 7 (mOp gSub (mVar 9) (mC (.int 1))))))) (mDrop (mApp 8 (mOp gAdd (mOp gSub (mOp gMulA (mC (.int 5)) (mIxV 8 (mVar 9))) (mIxV 8 (mOp gSub (mVar 9) (mC (.int 1))))) (mC (.int 1))))))) (mSeq (mSet 10 (mIxV 7 (mVar 4))) (mSeq (mSet 11 (mLc (mRng1 (mCons (mVar 4) mNil)) (tgName 13) mYes (mOp gSub (mOp gMulA (mIxV 7 (mVar 13)) (mIxV 8 (mVar 4))) (mOp gMulA (mIxV 8 (mVar 13)) (mVar 10))) [13])) (mSeq (mSet 12 (mLst (mCons (mTup (mCons (mOp gMulA (mOp gMulA (mC (.int 4)) (mVar 10)) (mVar 6)) (mCons (mVar 1) mNil))) (mCons (mTup (mCons (mOp gMulA (mVar 5) (mOp gAdd (mOp gAdd (mVar 10) (mIxV 11 (mC (.int 1)))) (mIxV 11 (mOp gSub (mVar 4) (mC (.int 1)))))) (mCons (mIxV 2 (mC (.int 0))) mNil))) mNil)))) (mSeq (mFor (mRng2 (mCons (mC (.int 1)) (mCons (mVar 4) mNil))) (tgName 13)
 (mDrop (mApp 12 (mTup (mCons (mOp gMulA (mOp gMulA (mC (.int 4)) (mVar 5)) (mIxV 11 (mVar 13))) (mCons (mIxV 2 (mVar 13)) mNil)))))) (mRet (mTup (mCons (mVar 12) (mCons (mCall1 gSum (mLc (mItL (mVar 12)) (tgTup 2 (tgCons (tgName 14) (tgCons (tgName 15) tgNil))) mYes (mVar 14) [14, 15])) mNil))))))))))))))))
noncomputable def m_end_shares : MF := fnM 14 b_end_shares
noncomputable def b_limit_shares : ME -> MS := (mSeq (mSet 2 (mMethV [("Web", m_Web_sort_of)] "sort_of" 0 (mCons (mVar 1) mNil))) (mSeq (mIfS (mTst (mOp gEq (mVar 2) (mC (.str "fast"))))
 (mRet (mTup (mCons (mLst (mCons (mTup (mCons (mC (.int 1)) (mCons (mVar 1) mNil))) mNil)) (mCons (mC (.int 1)) mNil))))
 mSkip) (mSeq (mIfS (mTst (mOp gEq (mVar 2) (mC (.str "row"))))
 (mRet (mTup (mCons (mOp gAdd (mLst (mCons (mTup (mCons (mC (.int 4)) (mCons (mVar 1) mNil))) mNil)) (mLc (mItL (mMethV [("Web", m_Web_edged)] "edged" 0 (mCons (mVar 1) mNil))) (tgName 4) mYes (mTup (mCons (mC (.int 1)) (mCons (mVar 4) mNil))) [4])) (mCons (mC (.int 6)) mNil))))
 mSkip) (mSeq (mIfS (mTst (mOp gEq (mVar 2) (mC (.str "end"))))
 (mRet (mFn m_end_shares (mCons (mVar 0) (mCons (mVar 1) mNil))))
 mSkip) (mSeq (mSet 3 (mMethV [("Web", m_Web_neighbours)] "neighbours" 0 (mCons (mVar 1) mNil))) (mSeq (mIfS (mTst (mOp gEq (mCallV gLen 3) (mC (.int 3))))
 (mRet (mTup (mCons (mOp gAdd (mLst (mCons (mTup (mCons (mC (.int 2)) (mCons (mVar 1) mNil))) mNil)) (mLc (mItL (mVar 3)) (tgName 4) mYes (mTup (mCons (mC (.int 1)) (mCons (mVar 4) mNil))) [4])) (mCons (mC (.int 5)) mNil))))
 mSkip) (mRet (mTup (mCons (mOp gAdd (mLst (mCons (mTup (mCons (mCallV gLen 3) (mCons (mVar 1) mNil))) mNil)) (mLc (mItL (mVar 3)) (tgName 4) mYes (mTup (mCons (mC (.int 1)) (mCons (mVar 4) mNil))) [4])) (mCons (mOp gMulA (mC (.int 2)) (mCallV gLen 3)) mNil))))))))))
noncomputable def m_limit_shares : MF := fnM 3 b_limit_shares
noncomputable def b_corner_shares : ME -> MS := (mSeq (mSet 2 (mMethV [("Web", m_Web_sort_of)] "sort_of" 0 (mCons (mVar 1) mNil))) (mSeq (mIfS (mTst (mOp gEq (mVar 2) (mC (.str "fast"))))
 (mRet (mTup (mCons (mLst (mCons (mTup (mCons (mC (.int 1)) (mCons (mVar 1) mNil))) mNil)) (mCons (mC (.int 1)) mNil))))
 mSkip) (mSeq (mIfS (mTst (mOp gEq (mVar 2) (mC (.str "row"))))
 (mRet (mTup (mCons (mOp gAdd (mLst (mCons (mTup (mCons (mC (.int 6)) (mCons (mVar 1) mNil))) mNil)) (mLc (mItL (mMethV [("Web", m_Web_edged)] "edged" 0 (mCons (mVar 1) mNil))) (tgName 4) mYes (mTup (mCons (mC (.int 1)) (mCons (mVar 4) mNil))) [4])) (mCons (mC (.int 8)) mNil))))
 mSkip) (mSeq (mSet 3 (mMethV [("Web", m_Web_neighbours)] "neighbours" 0 (mCons (mVar 1) mNil))) (mSeq (mIfS (mTst (mOp gEq (mCallV gLen 3) (mC (.int 3))))
 (mRet (mTup (mCons (mOp gAdd (mLst (mCons (mTup (mCons (mC (.int 7)) (mCons (mVar 1) mNil))) mNil)) (mLc (mItL (mVar 3)) (tgName 4) mYes (mTup (mCons (mC (.int 3)) (mCons (mVar 4) mNil))) [4])) (mCons (mC (.int 16)) mNil))))
 mSkip) (mRet (mTup (mCons (mOp gAdd (mLst (mCons (mTup (mCons (mOp gMulA (mC (.int 5)) (mCallV gLen 3)) (mCons (mVar 1) mNil))) mNil)) (mLc (mItL (mVar 3)) (tgName 4) mYes (mTup (mCons (mC (.int 3)) (mCons (mVar 4) mNil))) [4])) (mCons (mOp gMulA (mC (.int 8)) (mCallV gLen 3)) mNil)))))))))
noncomputable def m_corner_shares : MF := fnM 3 b_corner_shares
noncomputable def b_side_shares : ME -> MS := (mSeq (mAsg (tgTup 2 (tgCons (tgName 2) (tgCons (tgName 3) tgNil))) (mVar 1)) (mSeq (mIfS (mTst (mMethV [("Web", m_Web_is_sharp)] "is_sharp" 0 (mCons (mVar 1) mNil)))
 (mRet (mTup (mCons (mLst (mCons (mTup (mCons (mC (.int 1)) (mCons (mVar 2) mNil))) (mCons (mTup (mCons (mC (.int 1)) (mCons (mVar 3) mNil))) mNil))) (mCons (mC (.int 2)) mNil))))
 mSkip) (mRet (mTup (mCons (mLst (mCons (mTup (mCons (mC (.int 3)) (mCons (mVar 2) mNil))) (mCons (mTup (mCons (mC (.int 3)) (mCons (mVar 3) mNil))) (mCons (mTup (mCons (mC (.int 1)) (mCons (mIx (mFldV ctab_Web "third" 0) (mTup (mCons (mVar 2) (mCons (mVar 3) mNil)))) mNil))) (mCons (mTup (mCons (mC (.int 1)) (mCons (mIx (mFldV ctab_Web "third" 0) (mTup (mCons (mVar 3) (mCons (mVar 2) mNil)))) mNil))) mNil))))) (mCons (mC (.int 8)) mNil))))))
noncomputable def m_side_shares : MF := fnM 2 b_side_shares
noncomputable def b_numbered : ME -> MS := (mSeq (mSet 1 (mOp gAdd (mCall1 gMaxL (mCall1 gListB (mFldV ctab_Web "after" 0))) (mC (.int 1)))) (mRet (mDc (.dT [] []) (mEnum (mCons (mFldV ctab_Web "pairs" 0) mNil)) (tgTup 2 (tgCons (tgName 2) (tgCons (tgName 3) tgNil))) mYes (mVar 3) (mOp gAdd (mVar 1) (mVar 2)) [2, 3])))
noncomputable def m_numbered : MF := fnM 3 b_numbered
noncomputable def b_narrower : ME -> MS := (mSeq (mAsg (tgTup 3 (tgCons (tgName 4) (tgCons (tgName 5) (tgCons (tgName 6) tgNil)))) (mVar 0)) (mSeq (mAsg (tgSq 3 (tgCons (tgName 7) (tgCons (tgName 8) (tgCons (tgName 9) tgNil)))) (mVar 3)) (mSeq (mSet 10 (mFn m_width (mCons (mOp gSub (mVar 2) (mC (.int 1))) mNil))) (mSeq (mPar [11, 12, 13] (mCons (mIxV 1 (mFn m_pair_of (mCons (mVar 4) (mCons (mVar 5) mNil)))) (mCons (mIxV 1 (mFn m_pair_of (mCons (mVar 5) (mCons (mVar 6) mNil)))) (mCons (mIxV 1 (mFn m_pair_of (mCons (mVar 6) (mCons (mVar 4) mNil)))) mNil)))) (mSeq (mIfS (mTst (mOp gGe (mVar 7) (mVar 10)))
 (mRet (mTup (mCons (mTup (mCons (mVar 4) (mCons (mVar 11) (mCons (mVar 13) mNil)))) (mCons (mTup (mCons (mOp gSub (mVar 7) (mVar 10)) (mCons (mVar 8) (mCons (mVar 9) mNil)))) mNil))))
 mSkip) (mSeq (mIfS (mTst (mOp gGe (mVar 8) (mVar 10)))
 (mRet (mTup (mCons (mTup (mCons (mVar 5) (mCons (mVar 12) (mCons (mVar 11) mNil)))) (mCons (mTup (mCons (mOp gSub (mVar 8) (mVar 10)) (mCons (mVar 9) (mCons (mVar 7) mNil)))) mNil))))
 mSkip) (mSeq (mIfS (mTst (mOp gGe (mVar 9) (mVar 10)))
 (mRet (mTup (mCons (mTup (mCons (mVar 6) (mCons (mVar 13) (mCons (mVar 12) mNil)))) (mCons (mTup (mCons (mOp gSub (mVar 9) (mVar 10)) (mCons (mVar 7) (mCons (mVar 8) mNil)))) mNil))))
 mSkip) (mRet (mTup (mCons (mTup (mCons (mVar 11) (mCons (mVar 12) (mCons (mVar 13) mNil)))) (mCons (mTup (mCons (mOp gSub (mVar 10) (mVar 9)) (mCons (mOp gSub (mVar 10) (mVar 7)) (mCons (mOp gSub (mVar 10) (mVar 8)) mNil)))) mNil)))))))))))
noncomputable def m_narrower : MF := fnM 10 b_narrower
noncomputable def b_cut_faces : ME -> MS := (mSeq (mSet 2 (mLst mNil)) (mSeq (mFor (mItL (mFldV ctab_Web "trios" 0)) (tgTup 3 (tgCons (tgName 3) (tgCons (tgName 4) (tgCons (tgName 5) tgNil))))
 (mSeq (mPar [6, 7, 8] (mCons (mIxV 1 (mFn m_pair_of (mCons (mVar 3) (mCons (mVar 4) mNil)))) (mCons (mIxV 1 (mFn m_pair_of (mCons (mVar 4) (mCons (mVar 5) mNil)))) (mCons (mIxV 1 (mFn m_pair_of (mCons (mVar 5) (mCons (mVar 3) mNil)))) mNil)))) (mDrop (mExt 2 (mLst (mCons (mTup (mCons (mVar 3) (mCons (mVar 6) (mCons (mVar 8) mNil)))) (mCons (mTup (mCons (mVar 4) (mCons (mVar 7) (mCons (mVar 6) mNil)))) (mCons (mTup (mCons (mVar 5) (mCons (mVar 8) (mCons (mVar 7) mNil)))) (mCons (mTup (mCons (mVar 6) (mCons (mVar 7) (mCons (mVar 8) mNil)))) mNil))))))))) (mRet (mVar 2))))
noncomputable def m_cut_faces : MF := fnM 7 b_cut_faces
noncomputable def b_cut_web : ME -> MS := (mSeq (mSet 2 (mFn m_numbered (mCons (mVar 0) mNil))) (mSeq (mSet 3 (mDc (.dK [] []) (mItL (mCall1 gSorted (mCall1 gListB (mFldV ctab_Web "after" 0)))) (tgName 8) mYes (mVar 8) (mFn m_made (mCons (mFn m_corner_shares (mCons (mVar 0) (mCons (mVar 8) mNil))) (mCons (mVar 1) mNil))) [8])) (mSeq (mFor (mItL (mFldV ctab_Web "pairs" 0)) (tgName 4)
 (mPut 3 (mIxV 2 (mVar 4)) (mFn m_made (mCons (mFn m_side_shares (mCons (mVar 0) (mCons (mVar 4) mNil))) (mCons (mVar 1) mNil))))) (mSeq (mSet 5 mNewT) (mSeq (mForK (pFldV ctab_Web "told" 0) (tgTup 2 (tgCons (tgName 6) (tgCons (tgName 7) tgNil)))
 (mSeq (mPut 5 (mTup (mCons (mVar 6) (mCons (mIxV 2 (mTup (mCons (mVar 6) (mCons (mVar 7) mNil)))) mNil))) (mC (.bl true))) (mPut 5 (mTup (mCons (mVar 7) (mCons (mIxV 2 (mTup (mCons (mVar 6) (mCons (mVar 7) mNil)))) mNil))) (mC (.bl true))))) (mRet (mTup (mCons (mMake "Web" ar_Web m_Web___init__ (mCons (mFn m_cut_faces (mCons (mVar 0) (mCons (mVar 2) mNil))) (mCons (mVar 5) (mCons (mFldV ctab_Web "quick" 0) mNil))) mNil) (mCons (mVar 3) mNil)))))))))
noncomputable def m_cut_web : MF := fnM 7 b_cut_web
theorem gabs_i (i : Int) : g1 gAbs [.int i] = some (.v (.int (i.natAbs : Nat))) := by
 show some (Slot.v (D.int (if i < 0 then -i else i))) = _
 congr 3
 split <;> omega
theorem divisor_wr (a b : Int) : WR (m_divisor [.v (.int a), .v (.int b)]) fun s _ => s = .v (.int (Int.gcd a b : Nat)) := by
 unfold m_divisor b_divisor
 refine wr_fnM (ws_seq (ws_par (wl_cons (wr_call (wl_cons (wr_v rfl ⟨_, rfl, wl_nil ⟨_, gabs_i a, ?_⟩⟩))))))
 refine ⟨_, rfl, wl_cons (wr_call (wl_cons (wr_v rfl ⟨_, rfl, wl_nil ⟨_, gabs_i b, ?_⟩⟩)))⟩
 refine ⟨_, rfl, wl_nil ⟨rfl, ?_⟩⟩
 refine ws_seq (ws_while (b.natAbs + 1) (ws_whileN (fun m ρ => ∃ x : Nat, ρ = [.v (.int (x : Nat)), .v (.int (m : Nat))] /\ Nat.gcd x m = Int.gcd a b) (m0 := b.natAbs) ⟨a.natAbs, rfl, rfl⟩ (by omega) ?_))
 rintro m ρ ⟨x, rfl, hg⟩
 (refine wb_tst ?_; refine wr_op ?_; refine wr_v rfl ?_; refine ⟨_, dat_v, ?_⟩; refine wr_c ?_; refine ⟨_, dat_v, ?_⟩; refine ⟨_, gGt_ii, ?_⟩; refine ex_bl ?_)
 refine ⟨fun e => ?_, fun e => ?_⟩
 ·have hm : (0 : Int) < (m : Nat) := of_decide_eq_true e
  refine ws_par (wl_cons (wr_v rfl ⟨_, rfl, wl_cons (wr_op (wr_v rfl ⟨_, rfl, wr_v rfl ⟨_, rfl, _, gMod_pos hm, _, rfl, ?_⟩⟩))⟩))
  refine wl_nil ⟨rfl, x % m, Nat.mod_lt _ (by omega), m, rfl, ?_⟩
  rw [<- hg, Nat.gcd_comm x m, Nat.gcd_rec m x, Nat.gcd_comm]
 ·have hm : ¬ (0 : Int) < (m : Nat) := of_decide_eq_false e
  have h0 : m = 0 := by omega
  subst h0
  refine ws_ret (wr_v rfl ?_)
  rw [<- hg, Nat.gcd_zero_right]
def gcdL (L : List Int) : Nat := L.foldl (fun g x => Int.gcd (g : Nat) x) 0
theorem divisor_of_wr (L : List Int) : WR (m_divisor_of [.v (.lst (L.map .int))]) fun s _ => s = .v (.int (gcdL L : Nat)) := by
 unfold m_divisor_of b_divisor_of
 refine wr_fnM (ws_seq (ws_set1 (wr_c ⟨rfl, ?_⟩)))
 refine ws_seq (ws_for (wi_lst (wr_v rfl ⟨_, rfl, _, rfl, ?_⟩)))
 refine ws_loop (fun j ρ => ∃ x, ρ = [.v (.lst (L.map .int)), .v (.int (gcdL (L.take j) : Nat)), x]) ⟨_, rfl⟩ ?_ ?_
 ·rintro j hj ρ ⟨x, rfl⟩
  have hj' : j < L.length := by simpa using hj
  rw [List.getElem_map]
  refine ⟨_, rfl, ws_set1 (wr_fn' (wl_cons (wr_v rfl ⟨_, rfl, wl_cons (wr_v rfl ⟨_, rfl, wl_nil ?_⟩)⟩)))⟩
  refine (divisor_wr _ _).mono fun s y hs => ?_
  subst hs
  refine ⟨⟨_, rfl⟩, rfl, .v (.int L[j]), ?_⟩
  have e : gcdL (L.take (j + 1)) = Int.gcd (gcdL (L.take j) : Nat) L[j] := by
   rw [List.take_succ_eq_append_getElem hj']
   unfold gcdL
   rw [List.foldl_append]
   rfl
  rw [e]
  rfl
 ·rintro ρ ⟨x, rfl⟩
  rw [List.length_map, List.take_length]
  exact ws_ret (wr_v rfl rfl)
def lcmL (L : List Nat) : Nat := L.foldl Nat.lcm 1
theorem lcmL_snoc (L : List Nat) (x : Nat) : lcmL (L ++ [x]) = Nat.lcm (lcmL L) x := by unfold lcmL; rw [List.foldl_append]; rfl
theorem lcmL_pos {L : List Nat} (h : ∀ x ∈ L, 0 < x) : 0 < lcmL L := by
 have key : ∀ (L : List Nat) (a : Nat), 0 < a -> (∀ x ∈ L, 0 < x) -> 0 < L.foldl Nat.lcm a := by
  intro L
  induction L with
  | nil => intro a h _; exact h
  | cons x L ih => intro a h1 h2; exact ih _ (Nat.lcm_pos h1 (h2 x List.mem_cons_self)) fun y hy => h2 y (List.mem_cons_of_mem _ hy)
 exact key L 1 (by decide) h
theorem multiple_of_wr (L : List Nat) (h : ∀ x ∈ L, 0 < x /\ x < 2 ^ 63) : WR (m_multiple_of [.v (.lst (L.map fun x : Nat => .int (x : Nat)))]) fun s _ => s = .v (.int (lcmL L : Nat)) := by
 unfold m_multiple_of b_multiple_of
 refine wr_fnM (ws_seq (ws_set1 (wr_c ⟨rfl, ?_⟩)))
 refine ws_seq (ws_for (wi_lst (wr_v rfl ⟨_, rfl, _, rfl, ?_⟩)))
 refine ws_loop (fun j ρ => ∃ x, ρ = [.v (.lst (L.map fun x : Nat => .int (x : Nat))), .v (.int (lcmL (L.take j) : Nat)), x]) ⟨_, rfl⟩ ?_ ?_
 ·rintro j hj ρ ⟨x, rfl⟩
  have hj' : j < L.length := by simpa using hj
  rw [List.getElem_map]
  obtain ⟨x0, x1⟩ := h L[j] (List.getElem_mem hj')
  refine ⟨_, rfl, ws_set1 (wr_op (wr_op (wr_v rfl ⟨_, rfl, wr_fn' (wl_cons (wr_v rfl ⟨_, rfl, wl_cons (wr_v rfl ⟨_, rfl, wl_nil ?_⟩)⟩))⟩)))⟩
  refine (divisor_wr _ _).mono fun s y hs => ?_
  subst hs
  have g0 : 0 < Nat.gcd (lcmL (L.take j)) L[j] := Nat.gcd_pos_of_pos_right _ x0
  have g1' : Nat.gcd (lcmL (L.take j)) L[j] ≤ L[j] := Nat.gcd_le_right _ x0
  refine ⟨⟨_, rfl⟩, _, rfl, _, gFdv_pos (by show (0 : Int) < (Nat.gcd (lcmL (L.take j)) L[j] : Nat); omega) (by show ((Nat.gcd (lcmL (L.take j)) L[j] : Nat) : Int) < _; omega), _, rfl, wr_v rfl ⟨_, rfl, _, gMul_r (by omega) (by omega), rfl, .v (.int L[j]), ?_⟩⟩
  have e : ((lcmL (L.take (j + 1)) : Nat) : Int) = ((lcmL (L.take j) : Nat) : Int) / ((Nat.gcd (lcmL (L.take j)) L[j] : Nat) : Int) * (L[j] : Nat) := by
   rw [List.take_succ_eq_append_getElem hj', lcmL_snoc, <- Int.natCast_ediv, <- Int.natCast_mul]
   congr 1
   unfold Nat.lcm
   exact (Nat.div_mul_right_comm (Nat.gcd_dvd_left _ _) _).symm
  rw [e]
  rfl
 ·rintro ρ ⟨x, rfl⟩
  rw [List.length_map, List.take_length]
  exact ws_ret (wr_v rfl rfl)
def sumD (ks : List Int) (f : Int -> Int) : D := .dK (ks.map .inl) (ks.map fun k => .int (f k))
def tot (L : List (Int × Int)) (c : Int) : Int := (L.map fun p => if p.1 = c then p.2 else 0).sum
def keyU (L : List (Int × Int)) : List Int := L.foldl (fun T p => addI T p.1) []
theorem tot_snoc (L : List (Int × Int)) (p : Int × Int) (c : Int) : tot (L ++ [p]) c = tot L c + if p.1 = c then p.2 else 0 := by
 unfold tot
 rw [List.map_append, List.sum_append, List.map_cons, List.map_nil, List.sum_cons, List.sum_nil, Int.add_zero]
theorem keyU_snoc (L : List (Int × Int)) (p : Int × Int) : keyU (L ++ [p]) = addI (keyU L) p.1 := by unfold keyU; rw [List.foldl_append]; rfl
theorem keyU_all (L : List (Int × Int)) : (keyU L).Nodup /\ (keyU L).length ≤ L.length /\ ∀ c, c ∈ keyU L ↔ ∃ p ∈ L, p.1 = c := by
 have key : ∀ (L : List (Int × Int)) (A : List Int), A.Nodup -> (L.foldl (fun T p => addI T p.1) A).Nodup /\ (L.foldl (fun T p => addI T p.1) A).length ≤ A.length + L.length /\ ∀ c, c ∈ L.foldl (fun T p => addI T p.1) A ↔ c ∈ A \/ ∃ p ∈ L, p.1 = c := by
  intro L
  induction L with
  | nil => intro A h; exact ⟨h, by simp, by simp⟩
  | cons p L ih =>
   intro A h
   obtain ⟨h1, h2, h3⟩ := ih (addI A p.1) (addI_nd h)
   refine ⟨h1, ?_, fun c => ?_⟩
   ·have : (addI A p.1).length ≤ A.length + 1 := by unfold addI; split <;> simp
    rw [List.foldl_cons, List.length_cons]
    omega
   ·rw [List.foldl_cons, h3, addI_mem]
    simp only [List.mem_cons, exists_eq_or_imp, or_assoc]
    constructor
    ·rintro (h | rfl | h)
     ·exact .inl h
     ·exact .inr (.inl rfl)
     ·exact .inr (.inr h)
    ·rintro (h | h | h)
     ·exact .inl h
     ·exact .inr (.inl h.symm)
     ·exact .inr (.inr h)
 obtain ⟨h1, h2, h3⟩ := key L [] List.nodup_nil
 exact ⟨h1, by simpa [keyU] using h2, fun c => by unfold keyU; rw [h3]; simp⟩
theorem tot_zero {L : List (Int × Int)} {c : Int} (h : c ∉ keyU L) : tot L c = 0 := by
 have hn : ∀ p ∈ L, p.1 ≠ c := fun p hp e => h (((keyU_all L).2.2 c).mpr ⟨p, hp, e⟩)
 unfold tot
 clear h
 induction L with
 | nil => rfl
 | cons p L ih =>
  rw [List.map_cons, List.sum_cons, if_neg (hn p List.mem_cons_self), ih fun q hq => hn q (List.mem_cons_of_mem _ hq)]
  rfl
theorem sum_get (ks : List Int) (f : Int -> Int) (c : Int) : valD (ks.map (Sum.inl : Int -> Key)) (ks.map fun k => D.int (f k)) (.inl c) = if c ∈ ks then some (.int (f c)) else none := by
 induction ks with
 | nil => rfl
 | cons k ks ih =>
  show (if (Sum.inl k : Key) = .inl c then some (D.int (f k)) else valD (ks.map (Sum.inl : Int -> Key)) (ks.map fun k => D.int (f k)) (.inl c)) = _
  by_cases e : k = c
  ·subst e; rw [if_pos rfl, if_pos List.mem_cons_self]
  ·rw [if_neg (fun z => e (Sum.inl.inj z)), ih]
   by_cases m : c ∈ ks
   ·rw [if_pos m, if_pos (List.mem_cons_of_mem _ m)]
   ·rw [if_neg m, if_neg fun z => by rcases List.mem_cons.mp z with z | z; exact e z.symm; exact m z]
theorem sum_getD {L : List (Int × Int)} (c : Int) : (valD ((keyU L).map (Sum.inl : Int -> Key)) ((keyU L).map fun k => D.int (tot L k)) (.inl c)).getD (.int 0) = .int (tot L c) := by
 rw [sum_get]
 split
 ·rfl
 ·rename_i h; rw [tot_zero h]; rfl
theorem sum_ix {ks : List Int} {f : Int -> Int} {c : Int} (h : c ∈ ks) : gIx (sumD ks f) (.int c) = some (.int (f c)) := by
 have e := sum_get ks f c
 rw [if_pos h] at e
 exact e
theorem sortK_sum (ks : List Int) (f : Int -> Int) : gSortedK (sumD ks f) = some (.own (.lst ((PySem.W.sortI ks).map .int))) := by
 show (intKs? (ks.map Sum.inl)).map _ = _
 rw [intKs_of]
 rfl
theorem repV_fun (c v : Int) (f : Int -> Int) : ∀ ks : List Int, repV (Sum.inl c : Key) (.int v) (ks.map (Sum.inl : Int -> Key)) (ks.map fun k => D.int (f k)) = ks.map fun k => D.int (if k = c then v else f k)
 | [] => rfl
 | k :: ks => by
  show (if (Sum.inl k : Key) = .inl c then D.int v else D.int (f k)) :: repV (Sum.inl c : Key) (.int v) (ks.map (Sum.inl : Int -> Key)) (ks.map fun k => D.int (f k)) = _
  rw [repV_fun c v f ks, List.map_cons]
  congr 1
  by_cases e : k = c
  ·subst e; rw [if_pos rfl, if_pos rfl]
  ·rw [if_neg e, if_neg fun z => e (Sum.inl.inj z)]
theorem sum_put (L : List (Int × Int)) (c v : Int) (hl : L.length < 900000) : putD (sumD (keyU L) (tot L)) (.int c) (.int (tot L c + v)) = some (sumD (keyU (L ++ [(c, v)])) (tot (L ++ [(c, v)]))) := by
 have kl := (keyU_all L).2.1
 have ev : ∀ ks : List Int, (ks.map fun k => D.int (if k = c then tot L c + v else tot L k)) = ks.map fun k => D.int (tot (L ++ [(c, v)]) k) := fun ks => List.map_congr_left fun k _ => by
  rw [tot_snoc]
  by_cases e : k = c
  ·subst e; rw [if_pos rfl, if_pos rfl]
  ·rw [if_neg e, if_neg (Ne.symm e), Int.add_zero]
 show (if ((keyU L).map (Sum.inl : Int -> Key)).length < 900000 then some (D.dK (putKs (Sum.inl c : Key) ((keyU L).map (Sum.inl : Int -> Key))) (putVs (Sum.inl c : Key) (.int (tot L c + v)) ((keyU L).map (Sum.inl : Int -> Key)) ((keyU L).map fun k => D.int (tot L k)))) else none) = _
 rw [if_pos (by rw [List.length_map]; omega), keyU_snoc]
 unfold sumD addI putKs putVs
 by_cases m : c ∈ keyU L
 ·have e : hasK (Sum.inl c : Key) ((keyU L).map (Sum.inl : Int -> Key)) = true := hasK_mem.mpr (inl_mem.mpr m)
  rw [e, if_pos rfl, if_pos rfl, if_pos m, repV_fun, ev]
 ·have e : hasK (Sum.inl c : Key) ((keyU L).map (Sum.inl : Int -> Key)) = false := by
   cases q : hasK (Sum.inl c : Key) ((keyU L).map (Sum.inl : Int -> Key)) with
   | false => rfl
   | true => exact absurd (inl_mem.mp (hasK_mem.mp q)) m
  rw [e, if_neg Bool.false_ne_true, if_neg Bool.false_ne_true, if_neg m, <- ev, List.map_append, List.map_append]
  have e2 : ((keyU L).map fun k => D.int (if k = c then tot L c + v else tot L k)) = (keyU L).map fun k => D.int (tot L k) := List.map_congr_left fun k hk => by rw [if_neg fun z : k = c => m (z ▸ hk)]
  rw [e2]
  simp
abbrev Wt0 := Nat × List (Int × Int)
def wtD (w : Wt0) : D := .tup [.int (w.1 : Nat), .tup (w.2.map pD)]
def partD (p : Int × Wt0) : D := .tup [.int p.1, wtD p.2]
def wideL (P : List (Int × Wt0)) : Nat := lcmL (P.map fun p => p.2.1)
def flat1 (w : Nat) (p : Int × Wt0) : List (Int × Int) := p.2.2.map fun q => (q.1, p.1 * q.2 * ((w : Int) / (p.2.1 : Nat)))
def flatL (P : List (Int × Wt0)) : List (Int × Int) := P.flatMap (flat1 (wideL P))
def rowsL (L : List (Int × Int)) : List (Int × Int) := ((PySem.W.sortI (keyU L)).filter fun c => decide (0 < tot L c)).map fun c => (c, tot L c)
def blendF (P : List (Int × Wt0)) (u : Nat) : Wt0 := (u * wideL P / gcdL ((rowsL (flatL P)).map (·.2)), (rowsL (flatL P)).map fun q => (q.1, q.2 / (gcdL ((rowsL (flatL P)).map (·.2)) : Nat)))
structure BlOk (P : List (Int × Wt0)) (u : Nat) : Prop where
 own : ∀ p ∈ P, 0 < p.2.1 /\ p.2.1 < 2 ^ 63
 few : P.length < 100000
 num : ∀ p ∈ P, -(2 ^ 62) < p.1 /\ p.1 < 2 ^ 62
 wid : wideL P < 2 ^ 62
 len : (flatL P).length < 900000
 und : u < 2 ^ 62
 ne : rowsL (flatL P) ≠ []
 sml : ∀ q ∈ rowsL (flatL P), q.2 < 2 ^ 200
theorem gcd_dvd (L : List Int) : ∀ x ∈ L, ((gcdL L : Nat) : Int) ∣ x := by
 have key : ∀ (L : List Int) (g : Nat), (L.foldl (fun g x => Int.gcd (g : Nat) x) g ∣ g) /\ ∀ x ∈ L, ((L.foldl (fun g x => Int.gcd (g : Nat) x) g : Nat) : Int) ∣ x := by
  intro L
  induction L with
  | nil => intro g; exact ⟨Nat.dvd_refl _, by simp⟩
  | cons y L ih =>
   intro g
   obtain ⟨h1, h2⟩ := ih (Int.gcd (g : Nat) y)
   rw [List.foldl_cons]
   refine ⟨Nat.dvd_trans h1 ?_, fun x hx => ?_⟩
   ·exact Int.natCast_dvd_natCast.mp (Int.gcd_dvd_left _ _)
   ·rcases List.mem_cons.mp hx with rfl | hx
    ·exact Int.dvd_trans (Int.natCast_dvd_natCast.mpr h1) (Int.gcd_dvd_right _ _)
    ·exact h2 x hx
 exact (key L 0).2
theorem gcd_pos {L : List Int} {x : Int} (h : x ∈ L) (h0 : 0 < x) : 0 < gcdL L /\ ((gcdL L : Nat) : Int) ≤ x := by
 have d := gcd_dvd L x h
 have le := Int.le_of_dvd h0 d
 refine ⟨?_, le⟩
 rcases Nat.eq_zero_or_pos (gcdL L) with e | e
 ·rw [e] at d
  have := Int.zero_dvd.mp d
  omega
 ·exact e
theorem rowsL_pos {L : List (Int × Int)} {q : Int × Int} (h : q ∈ rowsL L) : 0 < q.2 := by
 obtain ⟨c, hc, rfl⟩ := List.mem_map.mp h
 exact of_decide_eq_true (List.mem_filter.mp hc).2
theorem BlOk.gpos {P : List (Int × Wt0)} {u : Nat} (h : BlOk P u) : 0 < gcdL ((rowsL (flatL P)).map (·.2)) /\ gcdL ((rowsL (flatL P)).map (·.2)) < 2 ^ 200 := by
 obtain ⟨q, hq⟩ := List.exists_mem_of_ne_nil _ h.ne
 have h1 := rowsL_pos hq
 have h2 := h.sml q hq
 obtain ⟨h3, h4⟩ := gcd_pos (L := (rowsL (flatL P)).map (·.2)) (List.mem_map.mpr ⟨q, hq, rfl⟩) h1
 exact ⟨h3, by omega⟩
theorem fdv_big {i j : Int} (h : 0 < j) (h3 : j.natAbs.log2 < 9000) : gFdv (.int i) (.int j) = some (.v (.int (i / j))) := by simp [gFdv, h, h3]
theorem log_lt {j : Int} {k : Nat} (h0 : 0 ≤ j) (h : j < (2 ^ k : Nat)) (hk : k ≤ 9000) : j.natAbs.log2 < 9000 := by
 by_cases z : j.natAbs = 0
 ·rw [z]; decide
 ·have : j.natAbs < 2 ^ k := by omega
  have := (Nat.log2_lt z).mpr this
  omega
theorem blend_wr {P : List (Int × Wt0)} {u : Nat} (h : BlOk P u) : WR (m_blend [.v (.lst (P.map partD)), .v (.int (u : Nat))]) fun s _ => s = .v (wtD (blendF P u)) := by
 obtain ⟨g0, g1'⟩ := h.gpos
 have few := h.few
 unfold m_blend b_blend
 refine wr_fnM (ws_seq (ws_set1 (wr_fn' (wl_cons (wr_lcA (wi_lst (wr_v rfl ⟨_, rfl, _, rfl, rfl, by rw [List.length_map]; omega, fun d => match d with | .tup [_, .tup (o :: _)] => o | _ => .non, ?_, ?_⟩)))))))
 ·intro d hd
  obtain ⟨p, hp, rfl⟩ := List.mem_map.mp hd
  refine ⟨_, rfl, wr_ixV rfl (wr_c ⟨_, rfl, _, _, rfl, rfl, _, rfl, rfl, rfl⟩)⟩
 refine ⟨_, rfl, wl_nil ?_⟩
 have e1 : (P.map partD).map (fun d => match d with | .tup [_, .tup (o :: _)] => o | _ => D.non) = (P.map fun p => p.2.1).map fun x : Nat => D.int (x : Nat) := by
  rw [List.map_map, List.map_map]; rfl
 rw [e1]
 refine (multiple_of_wr _ fun x hx => ?_).mono fun s y hs => ?_
 ·obtain ⟨p, hp, rfl⟩ := List.mem_map.mp hx
  exact h.own p hp
 subst hs
 refine ⟨⟨_, rfl⟩, rfl, ?_⟩
 refine ws_norm (ρ' := [.v (.lst (P.map partD)), .v (.int (u : Nat)), .v (.int (wideL P : Nat)), .no, .no, .no, .no, .no, .no, .no, .no]) rfl ?_
 let st : D -> Mp.Slot -> Mp.Slot -> Mp.Slot -> Mp.Slot -> Mp.Slot -> ME := fun s x4 x5 x6 x7 x8 => [.v (.lst (P.map partD)), .v (.int (u : Nat)), .v (.int (wideL P : Nat)), .own s, x4, x5, x6, x7, x8, .no, .no]
 have w0 : 0 < wideL P := lcmL_pos fun x hx => by
  obtain ⟨p, hp, rfl⟩ := List.mem_map.mp hx
  exact (h.own p hp).1
 have w1 := h.wid
 refine ws_seq (ws_set1 (wr_newK ⟨rfl, ?_⟩))
 refine ws_seq (ws_for (wi_lst (wr_v rfl ⟨_, rfl, _, rfl, ?_⟩)))
 refine ws_loop (fun j ρ => ∃ x4 x5 x6 x7 x8, ρ = st (sumD (keyU ((P.take j).flatMap (flat1 (wideL P)))) (tot ((P.take j).flatMap (flat1 (wideL P))))) x4 x5 x6 x7 x8 /\ Pl x7 /\ Pl x8) ⟨_, _, _, _, _, rfl, .inl rfl, .inl rfl⟩ ?_ ?_
 ·rintro j hj ρ ⟨x4, x5, x6, x7, x8, rfl, p7, p8⟩
  have hj' : j < P.length := by simpa using hj
  rw [List.getElem_map]
  obtain ⟨o0, o1⟩ := h.own P[j] (List.getElem_mem hj')
  obtain ⟨k0, k1⟩ := h.num P[j] (List.getElem_mem hj')
  generalize hL0 : (P.take j).flatMap (flat1 (wideL P)) = L0
  have hL1 : (P.take (j + 1)).flatMap (flat1 (wideL P)) = L0 ++ flat1 (wideL P) P[j] := by
   rw [List.take_succ_eq_append_getElem hj', List.flatMap_append, hL0, List.flatMap_cons, List.flatMap_nil, List.append_nil]
  have hlen : (L0 ++ flat1 (wideL P) P[j]).length < 900000 := by
   rw [<- hL1]
   refine Nat.lt_of_le_of_lt ?_ h.len
   unfold flatL
   conv => rhs; rw [show P.flatMap (flat1 (wideL P)) = (P.take (j + 1) ++ P.drop (j + 1)).flatMap (flat1 (wideL P)) by rw [List.take_append_drop]]
   rw [List.flatMap_append, List.length_append]
   omega
  rw [hL1]
  generalize P[j] = p at *
  obtain ⟨k, own, rows⟩ := p
  have oo : (0 : Int) < (own : Nat) /\ ((own : Nat) : Int) < 18446744073709551616 := by
   have h1 : 0 < own := o0
   have h2 : own < 2 ^ 63 := o1
   omega
  refine ⟨_, rfl, ?_⟩
  refine ws_norm (ρ' := st (sumD (keyU L0) (tot L0)) (.v (.int k)) (.v (.int (own : Nat))) (.v (.tup (rows.map pD))) x7 x8) rfl ?_
  refine ws_for (wi_any (wr_v rfl ⟨_, rfl, _, .inr (.inl rfl), ?_⟩))
  have hf : flat1 (wideL P) (k, own, rows) = rows.map fun q => (q.1, k * q.2 * ((wideL P : Int) / (own : Nat))) := rfl
  rw [hf] at hlen ⊢
  rw [List.length_append, List.length_map] at hlen
  have wo : (wideL P : Int) / (own : Nat) < 18446744073709551616 := by
   have := Int.ediv_le_self (own : Nat) (show (0 : Int) ≤ (wideL P : Nat) by omega)
   omega
  have wo0 : 0 ≤ (wideL P : Int) / (own : Nat) := Int.ediv_nonneg (by omega) (by omega)
  refine ws_loop (fun i ρ => ∃ x7 x8, ρ = st (sumD (keyU (L0 ++ (rows.take i).map fun q => (q.1, k * q.2 * ((wideL P : Int) / (own : Nat))))) (tot (L0 ++ (rows.take i).map fun q => (q.1, k * q.2 * ((wideL P : Int) / (own : Nat)))))) (.v (.int k)) (.v (.int (own : Nat))) (.v (.tup (rows.map pD))) x7 x8 /\ Pl x7 /\ Pl x8) ⟨x7, x8, by rw [List.take_zero, List.map_nil, List.append_nil], p7, p8⟩ ?_ ?_
  ·rintro i hi ρ ⟨x7, x8, rfl, p7, p8⟩
   have hi' : i < rows.length := by simpa using hi
   rw [List.getElem_map]
   have ht : (rows.take (i + 1)).map (fun q => (q.1, k * q.2 * ((wideL P : Int) / (own : Nat)))) = (rows.take i).map (fun q => (q.1, k * q.2 * ((wideL P : Int) / (own : Nat)))) ++ [(rows[i].1, k * rows[i].2 * ((wideL P : Int) / (own : Nat)))] := by
    rw [List.take_succ_eq_append_getElem hi', List.map_append]; rfl
   rw [ht, <- List.append_assoc]
   have hl2 : (L0 ++ (rows.take i).map fun q => (q.1, k * q.2 * ((wideL P : Int) / (own : Nat)))).length < 900000 := by
    rw [List.length_append, List.length_map, List.length_take]; omega
   generalize (L0 ++ (rows.take i).map fun q => (q.1, k * q.2 * ((wideL P : Int) / (own : Nat)))) = L at hl2 ⊢
   generalize rows[i] = q
   refine ⟨_, rfl, ?_⟩
   refine ws_norm (ρ' := st (sumD (keyU L) (tot L)) (.v (.int k)) (.v (.int (own : Nat))) (.v (.tup (rows.map pD))) (.v (.int q.1)) (.v (.int q.2))) rfl ?_
   refine ws_put (wr_op (wr_getV rfl (wr_v rfl ⟨_, rfl, wr_c ⟨_, rfl, _, _, _, rfl, rfl, ?_⟩⟩)))
   rw [sum_getD]
   refine ⟨_, rfl, wr_op (wr_op (wr_v rfl ⟨_, rfl, wr_v rfl ⟨_, rfl, _, gMul_l (by omega) (by omega), _, rfl, ?_⟩⟩))⟩
   refine wr_op (wr_v rfl ⟨_, rfl, wr_v rfl ⟨_, rfl, _, gFdv_pos oo.1 oo.2, _, rfl, _, gMul_r (by omega) wo, _, rfl, ?_⟩⟩)
   refine ⟨_, rfl, _, rfl, _, rfl, wr_v rfl ⟨_, rfl, _, _, rfl, sum_put L q.1 _ hl2, ?_⟩⟩
   exact ⟨_, _, rfl, .inr ⟨_, rfl⟩, .inr ⟨_, rfl⟩⟩
  ·rintro ρ ⟨x7, x8, rfl, p7, p8⟩
   rw [List.length_map, List.take_length]
   exact ⟨_, _, _, _, _, rfl, p7, p8⟩
 ·rintro ρ ⟨x4, x5, x6, x7, x8, rfl, p7, p8⟩
  rw [List.length_map, List.take_length]
  have hL : P.flatMap (flat1 (wideL P)) = flatL P := rfl
  rw [hL]
  have hll := h.len
  have hg : gcdL ((rowsL (flatL P)).map (·.2)) = gcdL ((rowsL (flatL P)).map (·.2)) := rfl
  have hne := h.sml
  show WS _ _
  have bf : blendF P u = (u * wideL P / gcdL ((rowsL (flatL P)).map (·.2)), (rowsL (flatL P)).map fun q => (q.1, q.2 / ((gcdL ((rowsL (flatL P)).map (·.2)) : Nat) : Int))) := rfl
  rw [bf]
  generalize flatL P = L at hll g0 g1' hne ⊢
  have kl := (keyU_all L).2.1
  refine ws_seq (ws_set1 (wr_lcI (wi_lst (wr_callV rfl ⟨_, sortK_sum (keyU L) (tot L), _, rfl, _, rfl, (by rcases p7 with rfl | ⟨_, rfl⟩ <;> rfl), ?_, fun i acc ρ => acc = ((((PySem.W.sortI (keyU L)).take i).filter fun c => decide (0 < tot L c)).map fun c => pD (c, tot L c)) /\ ρ = st (sumD (keyU L) (tot L)) x4 x5 x6 .no x8, ⟨rfl, rfl⟩, ?_, ?_⟩))))
  ·rw [List.length_map, (PySem.W.sortI_perm _).length_eq]; omega
  ·rintro i hi acc ρ ⟨rfl, rfl⟩
   have hi' : i < (PySem.W.sortI (keyU L)).length := by simpa using hi
   rw [List.getElem_map]
   have hm : (PySem.W.sortI (keyU L))[i] ∈ keyU L := (PySem.W.sortI_perm _).mem_iff.mp (List.getElem_mem hi')
   have stp := take_snoc (p := fun c => decide (0 < tot L c)) hi'
   generalize (PySem.W.sortI (keyU L))[i] = c at hm stp ⊢
   refine ⟨_, rfl, wb_tst (wr_op (wr_ixV rfl (wr_v rfl ⟨_, rfl, _, _, rfl, sum_ix hm, ?_⟩)))⟩
   refine ⟨_, rfl, wr_c ⟨_, rfl, _, gGt_ii, _, rfl, fun e => ?_, fun e => ?_⟩⟩
   ·refine wr_tup (wl_cons (wr_v rfl ⟨_, rfl, wl_cons (wr_ixV rfl (wr_v rfl ⟨_, rfl, _, _, rfl, sum_ix hm, ?_⟩))⟩))
    refine ⟨_, rfl, wl_nil ⟨_, rfl, ?_, rfl⟩⟩
    rw [stp, e, if_pos rfl, List.map_append]
    rfl
   ·refine ⟨?_, rfl⟩
    rw [stp, e, if_neg Bool.false_ne_true, List.append_nil]
  rintro acc ρ ⟨rfl, rfl⟩
  rw [List.length_map, List.take_length]
  have hR : (((PySem.W.sortI (keyU L)).filter fun c => decide (0 < tot L c)).map fun c => pD (c, tot L c)) = (rowsL L).map pD := by unfold rowsL; rw [List.map_map]; rfl
  rw [hR]
  have rl : (rowsL L).length < 1000000 := by
   unfold rowsL
   rw [List.length_map]
   have := List.length_filter_le (fun c => decide (0 < tot L c)) (PySem.W.sortI (keyU L))
   rw [(PySem.W.sortI_perm _).length_eq] at this
   omega
  generalize rowsL L = R at g0 g1' hne rl ⊢
  generalize hG : gcdL (R.map (·.2)) = gg at g0 g1' ⊢
  refine ⟨rfl, ?_⟩
  refine ws_norm (ρ' := [.v (.lst (P.map partD)), .v (.int (u : Nat)), .v (.int (wideL P : Nat)), .own (sumD (keyU L) (tot L)), x4, x5, .own (.lst (R.map pD)), x7, x8, .no, .no]) rfl ?_
  refine ws_seq (ws_set1 (wr_fn' (wl_cons (wr_lcA (wi_any (wr_o rfl ⟨_, rfl, _, .inl rfl, (by rcases p7 with rfl | ⟨_, rfl⟩ <;> rcases p8 with rfl | ⟨_, rfl⟩ <;> rfl), (by rw [List.length_map]; exact rl), fun d => match d with | .tup [_, v] => v | _ => .non, ?_, ?_⟩))))))
  ·intro d hd
   obtain ⟨q, _, rfl⟩ := List.mem_map.mp hd
   exact ⟨_, rfl, wr_v rfl ⟨_, rfl, rfl, rfl⟩⟩
  refine ⟨_, rfl, wl_nil ?_⟩
  have e2 : (R.map pD).map (fun d => match d with | .tup [_, v] => v | _ => D.non) = (R.map (·.2)).map D.int := by rw [List.map_map, List.map_map]; rfl
  rw [e2]
  refine (divisor_of_wr _).mono fun s y hs => ?_
  subst hs
  rw [hG]
  refine ⟨⟨_, rfl⟩, rfl, ?_⟩
  refine ws_norm (ρ' := [.v (.lst (P.map partD)), .v (.int (u : Nat)), .v (.int (wideL P : Nat)), .own (sumD (keyU L) (tot L)), x4, x5, .v (.lst (R.map pD)), x7, x8, .v (.int (gg : Nat)), .no]) (by rcases p7 with rfl | ⟨_, rfl⟩ <;> rcases p8 with rfl | ⟨_, rfl⟩ <;> rfl) ?_
  have hu := h.und
  have gp : (0 : Int) < (gg : Nat) /\ ((gg : Nat) : Int).natAbs.log2 < 9000 := ⟨by omega, log_lt (k := 200) (by omega) (by omega) (by decide)⟩
  refine ws_ret (wr_tup (wl_cons (wr_op (wr_op (wr_v rfl ⟨_, rfl, wr_v rfl ⟨_, rfl, _, gMul_l (by omega) (by omega), _, rfl, wr_v rfl ⟨_, rfl, _, fdv_big gp.1 gp.2, _, rfl, ?_⟩⟩⟩)))))
  refine wl_cons (wr_call (wl_cons (wr_lcA (wi_any (wr_v rfl ⟨_, rfl, _, .inl rfl, (by rcases p7 with rfl | ⟨_, rfl⟩ <;> rcases p8 with rfl | ⟨_, rfl⟩ <;> rfl), (by rw [List.length_map]; exact rl), fun d => match d with | .tup [c, .int v] => .tup [c, .int (v / (gg : Nat))] | _ => .non, ?_, ?_⟩)))))
  ·intro d hd
   obtain ⟨q, _, rfl⟩ := List.mem_map.mp hd
   refine ⟨_, rfl, wr_tup (wl_cons (wr_v rfl ⟨_, rfl, wl_cons (wr_op (wr_v rfl ⟨_, rfl, wr_v rfl ⟨_, rfl, _, fdv_big gp.1 gp.2, _, rfl, ?_⟩⟩))⟩))⟩
   exact wl_nil ⟨_, rfl, rfl, rfl⟩
  refine ⟨_, rfl, wl_nil ⟨_, rfl, _, rfl, wl_nil ?_⟩⟩
  have e3 : (R.map pD).map (fun d => match d with | .tup [c, .int v] => D.tup [c, .int (v / (gg : Nat))] | _ => D.non) = (R.map fun q => (q.1, q.2 / ((gg : Nat) : Int))).map pD := by rw [List.map_map, List.map_map]; rfl
  rw [e3]
  rfl
def shaD (P : List (Int × Int)) (u : Nat) : D := .tup [.lst (P.map pD), .int (u : Nat)]
theorem made_wr {P : List (Int × Int)} {u : Nat} {Rw : D} {w : Int -> Wt0} (hw : ∀ p ∈ P, gIx Rw (.int p.2) = some (wtD (w p.2))) (h : BlOk (P.map fun p => (p.1, w p.2)) u) :
    WR (m_made [.v (shaD P u), .v Rw]) fun s _ => s = .v (wtD (blendF (P.map fun p => (p.1, w p.2)) u)) := by
  have hl : P.length < 100000 := by have := h.few; rwa [List.length_map] at this
  unfold m_made b_made
  refine wr_fnM (ws_seq (ws_asg (wr_v rfl ⟨_, rfl, _, rfl, ?_⟩)))
  refine ws_ret (wr_fn' (wl_cons (wr_lcA (wi_lst (wr_v rfl ⟨_, rfl, _, rfl, rfl, (by rw [List.length_map]; omega), fun d => match d with | .tup [k, .int c] => .tup [k, wtD (w c)] | _ => .non, ?_, ?_⟩)))))
  · intro d hd
    obtain ⟨p, hp, rfl⟩ := List.mem_map.mp hd
    refine ⟨_, rfl, wr_tup (wl_cons (wr_v rfl ⟨_, rfl, wl_cons (wr_ixV rfl (wr_v rfl ⟨_, rfl, _, _, rfl, hw p hp, ?_⟩))⟩))⟩
    exact ⟨_, rfl, wl_nil ⟨_, rfl, rfl, rfl⟩⟩
  refine ⟨_, rfl, wl_cons (wr_v rfl ⟨_, rfl, wl_nil ?_⟩)⟩
  have e : (P.map pD).map (fun d => match d with | .tup [k, .int c] => D.tup [k, wtD (w c)] | _ => D.non) = (P.map fun p => (p.1, w p.2)).map partD := by rw [List.map_map, List.map_map]; rfl
  rw [e]
  refine (blend_wr h).mono fun s y hs => ?_
  subst hs
  exact ⟨⟨_, rfl⟩, rfl⟩
def tchB (t u : Tri) : Bool := decide (u.1 ∈ l3 t) || (decide (u.2.1 ∈ l3 t) || decide (u.2.2 ∈ l3 t))
def tchF (F : List Tri) (t : Tri) : List Tri := F.filter (tchB t)
theorem tch_sub {F : List Tri} {t s : Tri} (h : s ∈ spokes (tchF F t)) : s ∈ spokes F := by
 obtain ⟨u, hu, hs⟩ := List.mem_flatMap.mp h
 exact List.mem_flatMap.mpr ⟨u, (List.mem_filter.mp hu).1, hs⟩
theorem spokes_sublist {F G : List Tri} (h : F.Sublist G) : (spokes F).Sublist (spokes G) := by
 unfold spokes
 induction h with
 | slnil => exact List.Sublist.refl _
 | cons a h ih => exact ih.trans (List.sublist_append_right _ _)
 | cons_cons a h ih => exact (List.Sublist.refl _).append ih
theorem lnk_tch {F : List Tri} {t : Tri} {v : Int} (hv : v ∈ l3 t) : lnk v (spokes (tchF F t)) = lnk v (spokes F) := by
 unfold tchF
 induction F with
 | nil => rfl
 | cons u F ih =>
  have e1 : spokes (u :: F) = spk u ++ spokes F := rfl
  rw [e1, lnk_app]
  by_cases hb : tchB t u = true
  ·rw [List.filter_cons, if_pos hb, show spokes (u :: F.filter (tchB t)) = spk u ++ spokes (F.filter (tchB t)) from rfl, lnk_app, ih]
  ·rw [List.filter_cons, if_neg hb, ih]
   have h0 : lnk v (spk u) = [] := by
    unfold tchB at hb
    simp only [Bool.or_eq_true, decide_eq_true_eq, not_or] at hb
    obtain ⟨h1, h2, h3⟩ := hb
    show lnk v [(u.1, u.2.1, u.2.2), (u.2.1, u.2.2, u.1), (u.2.2, u.1, u.2.1)] = []
    rw [lnk_no (fun e : u.1 = v => h1 (by rw [e]; exact hv)), lnk_no (fun e : u.2.1 = v => h2 (by rw [e]; exact hv)), lnk_no (fun e : u.2.2 = v => h3 (by rw [e]; exact hv)), lnk_nil]
   rw [h0, List.nil_append]
def fE : Nat -> Int
 | 0 => 0
 | 1 => 1
 | k + 2 => 5 * fE (k + 1) - fE k
def gE : Nat -> Int
 | 0 => 0
 | 1 => 0
 | k + 2 => 5 * gE (k + 1) - gE k + 1
def sE (n k : Nat) : Int := fE k * gE n - gE k * fE n
def unE (n : Nat) : Nat := if n = 3 then 2 else n
def partE (n : Nat) (v : Int) (R : List Int) : List (Int × Int) := (4 * fE n * (unE n : Nat), v) :: (3 * (fE n + sE n 1 + sE n (n - 1)), R.getD 0 0) :: (List.range (n - 1)).map fun k => (4 * 3 * sE n (k + 1), R.getD (k + 1) 0)
def lone0 (c : Int) : Wt0 := (1, [(c, 1)])
def loneD (ks : List Int) : D := .dK (ks.map .inl) (ks.map fun k => wtD (lone0 k))
theorem lone_ix {ks : List Int} {c : Int} (h : c ∈ ks) : gIx (loneD ks) (.int c) = some (wtD (lone0 c)) := by
 show valD (ks.map (Sum.inl : Int -> Key)) (ks.map fun k => wtD (lone0 k)) (.inl c) = _
 induction ks with
 | nil => cases h
 | cons k ks ih =>
  show (if (Sum.inl k : Key) = .inl c then some (wtD (lone0 k)) else valD (ks.map (Sum.inl : Int -> Key)) (ks.map fun k => wtD (lone0 k)) (.inl c)) = _
  by_cases e : k = c
  ·subst e; rw [if_pos rfl]
  ·rw [if_neg (fun z => e (Sum.inl.inj z))]
   exact ih (by rcases List.mem_cons.mp h with z | z; exact absurd z.symm e; exact z)
theorem inner_tch {F : List Tri} {t : Tri} {v u : Int} (hv : v ∈ l3 t) : InnerW (spokes (tchF F t)) (v, u) ↔ InnerW (spokes F) (v, u) := by
 have key : ∀ {S S' : List Tri}, lnk v S = lnk v S' -> ((v, u) ∈ S.map way ↔ (v, u) ∈ S'.map way) := by
  intro S S' e
  have g : ∀ S : List Tri, (v, u) ∈ S.map way ↔ ∃ z, (u, z) ∈ lnk v S := fun S => by
   rw [List.mem_map]
   constructor
   ·rintro ⟨⟨x, y, z⟩, h, e⟩
    cases e
    exact ⟨z, mem_lnk.mpr h⟩
   ·rintro ⟨z, h⟩
    exact ⟨(v, u, z), mem_lnk.mp h, rfl⟩
  rw [g, g, e]
 have back : ∀ {G : List Tri}, ((u, v) ∈ (spokes G).map way ↔ ∃ z, (z, u) ∈ lnk v (spokes G)) := by
  intro G
  rw [List.mem_map]
  constructor
  ·rintro ⟨⟨x, y, z⟩, h, e⟩
   cases e
   exact ⟨z, mem_lnk.mpr (spokes_rot _ h)⟩
  ·rintro ⟨z, h⟩
   exact ⟨(u, v, z), spokes_rot _ (spokes_rot _ (mem_lnk.mp h)), rfl⟩
 have e := lnk_tch (F := F) hv
 unfold InnerW
 rw [key e, back, back, e]
theorem inner_sw {S : List Tri} {v u : Int} : InnerW S (pr v u) ↔ InnerW S (v, u) := by
 unfold pr
 rcases Int.lt_trichotomy u v with h | h | h
 ·rw [if_pos h, if_neg (by omega)]
  exact ⟨fun z => ⟨z.2, z.1⟩, fun z => ⟨z.2, z.1⟩⟩
 ·subst h
  simp
 ·rw [if_neg (by omega), if_pos (by omega)]
theorem inner_all {F : List Tri} {v u : Int} (h : InnerW (spokes F) (v, u)) : pr v u ∈ allL F := by
 unfold allL
 rw [(sortP_perm _).mem_iff, (sidesU_all _).2]
 obtain ⟨t, ht, e⟩ := List.mem_map.mp h.1
 refine ⟨t, ht, ?_⟩
 have e1 : t.1 = v := congrArg (·.1) e
 have e2 : t.2.1 = u := congrArg (·.2) e
 rw [e1, e2]
theorem shpL_tch {F : List Tri} {t : Tri} {v : Int} (hv : v ∈ l3 t) (T : List IP) : shpL (tchF F t) ((allL (tchF F t)).filter fun p => decide (p ∈ T /\ InnerW (spokes (tchF F t)) p)) v = shpL F T v := by
 have e := lnk_tch (F := F) hv
 have en : nbL (tchF F t) v = nbL F v := by unfold nbL; rw [e]
 unfold shpL
 rw [en]
 refine List.filter_congr fun u _ => ?_
 unfold shpP
 have h1 : InnerW (spokes (tchF F t)) (pr v u) ↔ InnerW (spokes F) (pr v u) := by rw [inner_sw, inner_sw, inner_tch hv]
 by_cases hi : InnerW (spokes F) (pr v u)
 ·have hp := h1.mpr hi
  have e1 : pr v u ∈ (allL (tchF F t)).filter (fun p => decide (p ∈ T /\ InnerW (spokes (tchF F t)) p)) ↔ pr v u ∈ T := by
   rw [List.mem_filter, decide_eq_true_eq]
   exact ⟨fun z => z.2.1, fun z => ⟨inner_all (inner_sw.mp hp), z, hp⟩⟩
  rw [decide_eq_decide.mpr e1, decide_eq_true hp, decide_eq_true hi]
 ·rw [decide_eq_false (fun z => hi (h1.mp z)), decide_eq_false hi]
  simp
def lones (P : List (Int × Int)) : List (Int × Wt0) := P.map fun p => (p.1, lone0 p.2)
theorem lcm_ones : ∀ n : Nat, lcmL (List.replicate n 1) = 1 := by
 intro n
 have key : ∀ n : Nat, (List.replicate n 1).foldl Nat.lcm 1 = 1 := by
  intro n
  induction n with
  | zero => rfl
  | succ n ih => rw [List.replicate_succ, List.foldl_cons]; exact ih
 exact key n
theorem wide_lones (P : List (Int × Int)) : wideL (lones P) = 1 := by
 unfold wideL lones
 rw [List.map_map, show (fun p : Int × Wt0 => p.2.1) ∘ (fun p : Int × Int => (p.1, lone0 p.2)) = fun _ => 1 from rfl, List.map_const', lcm_ones]
theorem flat_lones (P : List (Int × Int)) : flatL (lones P) = P.map fun p => (p.2, p.1) := by
 unfold flatL
 rw [wide_lones]
 induction P with
 | nil => rfl
 | cons p P ih =>
  show flat1 1 (p.1, lone0 p.2) ++ (lones P).flatMap (flat1 1) = _
  have e : flat1 1 (p.1, lone0 p.2) = [(p.2, p.1)] := by simp [flat1, lone0]
  rw [ih, List.map_cons, e]
  rfl
theorem keyU_nd {L : List (Int × Int)} (nd : (L.map (·.1)).Nodup) : keyU L = L.map (·.1) := by
 have key : ∀ (L : List (Int × Int)) (A : List Int), (A ++ L.map (·.1)).Nodup -> L.foldl (fun T p => addI T p.1) A = A ++ L.map (·.1) := by
  intro L
  induction L with
  | nil => intro A _; simp
  | cons p L ih =>
   intro A h
   rw [List.foldl_cons, List.map_cons]
   have hn : p.1 ∉ A := fun z => by
    rw [List.nodup_append] at h
    exact h.2.2 _ z _ (by simp) rfl
   have ea : addI A p.1 = A ++ [p.1] := by unfold addI; rw [if_neg hn]
   rw [ea, ih _ (by rw [List.append_assoc]; exact h), List.append_assoc]
   rfl
 exact key L [] (by simpa using nd)
theorem tot_nd {L : List (Int × Int)} (nd : (L.map (·.1)).Nodup) : ∀ p ∈ L, tot L p.1 = p.2 := by
 induction L with
 | nil => intro p h; cases h
 | cons q L ih =>
  rw [List.map_cons, List.nodup_cons] at nd
  intro p hp
  have e : tot (q :: L) p.1 = (if q.1 = p.1 then q.2 else 0) + tot L p.1 := by unfold tot; rw [List.map_cons, List.sum_cons]
  rw [e]
  rcases List.mem_cons.mp hp with rfl | hp
  ·rw [if_pos rfl, tot_zero (by rw [keyU_nd nd.2]; exact nd.1), Int.add_zero]
  ·rw [if_neg (fun z => nd.1 (by rw [z]; exact List.mem_map.mpr ⟨p, hp, rfl⟩)), ih nd.2 p hp, Int.zero_add]
structure PosP (P : List (Int × Int)) : Prop where
 nd : (P.map (·.2)).Nodup
 pos : ∀ p ∈ P, 0 < p.1 /\ p.1 < 2 ^ 60
 ne : P ≠ []
 few : P.length < 1000
theorem PosP.rows {P : List (Int × Int)} (h : PosP P) : (rowsL (flatL (lones P))).Perm (P.map fun p => (p.2, p.1)) /\ ((rowsL (flatL (lones P))).map (·.1)).Pairwise (· < ·) := by
 rw [flat_lones]
 have nd : ((P.map fun p => (p.2, p.1)).map (·.1)).Nodup := by rw [List.map_map]; exact h.nd
 generalize hL : (P.map fun p : Int × Int => (p.2, p.1)) = L at nd
 have pos : ∀ q ∈ L, 0 < q.2 := fun q hq => by
  rw [<- hL] at hq
  obtain ⟨p, hp, rfl⟩ := List.mem_map.mp hq
  exact (h.pos p hp).1
 have e1 : rowsL L = (PySem.W.sortI (L.map (·.1))).map fun c => (c, tot L c) := by
  unfold rowsL
  rw [keyU_nd nd]
  congr 1
  refine List.filter_eq_self.mpr fun c hc => ?_
  obtain ⟨q, hq, rfl⟩ := List.mem_map.mp ((PySem.W.sortI_perm _).mem_iff.mp hc)
  rw [tot_nd nd q hq]
  exact decide_eq_true (pos q hq)
 rw [e1]
 constructor
 ·refine ((PySem.W.sortI_perm (L.map (·.1))).map _).trans ?_
  rw [List.map_map]
  have e2 : L.map ((fun c => (c, tot L c)) ∘ (·.1)) = L := by
   conv => rhs; rw [<- List.map_id L]
   exact List.map_congr_left fun q hq => by
    show (q.1, tot L q.1) = q
    rw [tot_nd nd q hq]
  rw [e2]
 ·rw [List.map_map, show ((·.1) : Int × Int -> Int) ∘ (fun c => (c, tot L c)) = id from rfl, List.map_id]
  have nd2 : (PySem.W.sortI (L.map (·.1))).Nodup := (PySem.W.sortI_perm _).nodup_iff.mpr nd
  rw [List.nodup_iff_pairwise_ne] at nd2
  exact ((PySem.W.sortI_rises _).and nd2).imp fun h => by omega
theorem PosP.ok {P : List (Int × Int)} (h : PosP P) {u : Nat} (hu : u < 2 ^ 62) : BlOk (lones P) u where
 own := fun p hp => by
  obtain ⟨q, _, rfl⟩ := List.mem_map.mp hp
  exact ⟨by show 0 < 1; decide, by show 1 < 2 ^ 63; decide⟩
 few := by
  have := h.few
  unfold lones
  rw [List.length_map]
  omega
 num := fun p hp => by
  obtain ⟨q, hq, rfl⟩ := List.mem_map.mp hp
  have := h.pos q hq
  show -(2 ^ 62) < q.1 /\ q.1 < 2 ^ 62
  omega
 wid := by rw [wide_lones]; decide
 len := by
  have := h.few
  rw [flat_lones, List.length_map]
  omega
 und := hu
 ne := fun e => by
  have := h.rows.1.length_eq
  rw [e, List.length_map, List.length_nil] at this
  exact h.ne (List.eq_nil_of_length_eq_zero this.symm)
 sml := fun q hq => by
  obtain ⟨p, hp, rfl⟩ := List.mem_map.mp (h.rows.1.mem_iff.mp hq)
  have := h.pos p hp
  show p.1 < 2 ^ 200
  omega
def endU (P : List (Int × Int)) : Nat := Int.toNat (P.map (·.1)).sum
theorem sum_scale (g : Int) (L : List Int) : (L.map fun x => x * g).sum = L.sum * g := by
 induction L with
 | nil => simp
 | cons x L ih => rw [List.map_cons, List.sum_cons, List.sum_cons, ih, Int.add_mul]
theorem nb_row {F : List Tri} {v : Int} {r : List Int} {cl : Bool} (hr : Row (lnk v (spokes F)) r cl) {u : Int} : u ∈ nbL F v ↔ u ∈ r := by
 unfold nbL
 rw [sortU_mem, List.mem_append, List.mem_map, List.mem_map]
 constructor
 ·rintro (⟨p, hp, rfl⟩ | ⟨p, hp, rfl⟩)
  ·exact (hr.mem_l (x := p.1) (y := p.2) hp).1
  ·exact (hr.mem_l (x := p.1) (y := p.2) hp).2
 ·intro m
  obtain ⟨p, hp, e | e⟩ := hr.mem_r m
  ·exact .inl ⟨p, hp, e⟩
  ·exact .inr ⟨p, hp, e⟩
def lk (L : List (Int × Int)) (c : Int) : Int := ((L.find? fun p => decide (p.1 = c)).map (·.2)).getD 0
end Ck
namespace Cg
structure WB (S : List Tri) : Prop where
 rot : ∀ t ∈ S, rt t ∈ S
 nd : (S.map way).Nodup
 irr : ∀ t ∈ S, t.1 ≠ t.2.1
 np : ∀ a b c, (a, b, c) ∈ S -> (a, c, b) ∉ S
theorem WB.dis {S : List Tri} (h : WB S) {a b c : Int} (m : (a, b, c) ∈ S) : a ≠ b /\ b ≠ c /\ c ≠ a := ⟨h.irr _ m, h.irr _ (h.rot _ m), h.irr _ (h.rot _ (h.rot _ m))⟩
theorem way_one {S : List Tri} (nd : (S.map way).Nodup) {a b c d : Int} (h : (a, b, c) ∈ S) (k : (a, b, d) ∈ S) : c = d := by
 have : ∀ s ∈ S, ∀ t ∈ S, way s = way t -> s = t := by
  clear h k
  induction S with
  | nil => intro s hs; cases hs
  | cons x S ih =>
   rw [List.map_cons, List.nodup_cons] at nd
   intro s hs t ht e
   rcases List.mem_cons.mp hs with e1 | hs
   ·rcases List.mem_cons.mp ht with e2 | ht
    ·exact e1.trans e2.symm
    ·exact absurd (List.mem_map.mpr ⟨t, ht, by rw [<- e, e1]⟩) nd.1
   ·rcases List.mem_cons.mp ht with e2 | ht
    ·exact absurd (List.mem_map.mpr ⟨s, hs, by rw [e, e2]⟩) nd.1
    ·exact ih nd.2 s hs t ht e
 have := this _ h _ k rfl
 injection this with _ this
 injection this
structure Mid (S : List Tri) (mid : Int -> Int -> Int) : Prop where
 sym : ∀ a b, mid a b = mid b a
 inj : ∀ a b c, (a, b, c) ∈ S -> ∀ d e f, (d, e, f) ∈ S -> mid a b = mid d e -> (a = d /\ b = e) \/ (a = e /\ b = d)
 new : ∀ a b c, (a, b, c) ∈ S -> ∀ d e f, (d, e, f) ∈ S -> mid a b ≠ d
def cut4 (mid : Int -> Int -> Int) (t : Tri) : List Tri := [(t.1, mid t.1 t.2.1, mid t.2.2 t.1), (mid t.1 t.2.1, mid t.2.2 t.1, t.1), (mid t.2.2 t.1, t.1, mid t.1 t.2.1), (mid t.1 t.2.1, mid t.2.1 t.2.2, mid t.2.2 t.1)]
def cutS (mid : Int -> Int -> Int) (S : List Tri) : List Tri := S.flatMap (cut4 mid)
inductive Ct (S : List Tri) (mid : Int -> Int -> Int) : Tri -> Prop
 | a (a b c : Int) : (a, b, c) ∈ S -> Ct S mid (a, mid a b, mid c a)
 | b (a b c : Int) : (a, b, c) ∈ S -> Ct S mid (mid a b, mid c a, a)
 | c (a b c : Int) : (a, b, c) ∈ S -> Ct S mid (mid c a, a, mid a b)
 | d (a b c : Int) : (a, b, c) ∈ S -> Ct S mid (mid a b, mid b c, mid c a)
theorem mem_cut {S : List Tri} {mid : Int -> Int -> Int} {t : Tri} : t ∈ cutS mid S ↔ Ct S mid t := by
 unfold cutS
 rw [List.mem_flatMap]
 constructor
 ·rintro ⟨⟨a, b, c⟩, hs, ht⟩
  simp only [cut4, List.mem_cons, List.not_mem_nil, or_false] at ht
  rcases ht with rfl | rfl | rfl | rfl
  ·exact .a a b c hs
  ·exact .b a b c hs
  ·exact .c a b c hs
  ·exact .d a b c hs
 ·intro h
  cases h with
  | a a b c hs => exact ⟨_, hs, by simp [cut4]⟩
  | b a b c hs => exact ⟨_, hs, by simp [cut4]⟩
  | c a b c hs => exact ⟨_, hs, by simp [cut4]⟩
  | d a b c hs => exact ⟨_, hs, by simp [cut4]⟩
section
variable {S : List Tri} {mid : Int -> Int -> Int}
theorem WB.r1 (h : WB S) {a b c : Int} (hs : (a, b, c) ∈ S) : (b, c, a) ∈ S := h.rot _ hs
theorem WB.r2 (h : WB S) {a b c : Int} (hs : (a, b, c) ∈ S) : (c, a, b) ∈ S := h.rot _ (h.rot _ hs)
theorem cut_irr (h : WB S) (m : Mid S mid) {t : Tri} (ht : Ct S mid t) : t.1 ≠ t.2.1 := by
 cases ht with
 | a a b c hs => exact fun e => m.new _ _ _ hs _ _ _ hs e.symm
 | b a b c hs =>
  intro e
  have d := h.dis hs
  have := m.inj _ _ _ hs _ _ _ (h.r2 hs) e
  omega
 | c a b c hs => exact fun e => m.new _ _ _ (h.r2 hs) _ _ _ hs e
 | d a b c hs =>
  intro e
  have d := h.dis hs
  have := m.inj _ _ _ hs _ _ _ (h.r1 hs) e
  omega
theorem cut_rot (h : WB S) {t : Tri} (ht : Ct S mid t) : Ct S mid (rt t) := by
 cases ht with
 | a a b c hs => exact .b a b c hs
 | b a b c hs => exact .c a b c hs
 | c a b c hs => exact .a a b c hs
 | d a b c hs => exact .d b c a (h.rot _ hs)
theorem cut_np (h : WB S) (m : Mid S mid) {x y z : Int} (h1 : Ct S mid (x, y, z)) (h2 : Ct S mid (x, z, y)) : False := by
 -- turned so that the first is old, if any is
 have key : ∀ a b c, (a, b, c) ∈ S -> ∀ d e f, (d, e, f) ∈ S -> a = d -> mid a b = mid f d -> mid c a = mid d e -> False := by
  intro a b c hs d e f ht e1 e2 e3
  have d1 := h.dis hs
  have d2 := h.dis ht
  subst e1
  have i1 := m.inj _ _ _ hs _ _ _ (h.r2 ht) e2
  have i2 := m.inj _ _ _ (h.r2 hs) _ _ _ ht e3
  have eb : b = f := by omega
  have ec : c = e := by omega
  subst eb ec
  exact h.np _ _ _ hs ht
 have n1 : ∀ {a b c d e f : Int}, (a, b, c) ∈ S -> (d, e, f) ∈ S -> mid a b ≠ d := fun hs ht => m.new _ _ _ hs _ _ _ ht
 have r1 : ∀ {a b c : Int}, (a, b, c) ∈ S -> (b, c, a) ∈ S := fun hs => h.rot _ hs
 have r2 : ∀ {a b c : Int}, (a, b, c) ∈ S -> (c, a, b) ∈ S := fun hs => h.rot _ (h.rot _ hs)
 generalize e1 : (x, y, z) = t1 at h1
 generalize e2 : (x, z, y) = t2 at h2
 cases h1 with
 | a a b c hs =>
  cases h2 with
  | a d e f ht => simp only [Prod.mk.injEq] at e1 e2; exact key _ _ _ hs _ _ _ ht (by omega) (by omega) (by omega)
  | b d e f ht => simp only [Prod.mk.injEq] at e1 e2; exact n1 ht hs (by omega)
  | c d e f ht => simp only [Prod.mk.injEq] at e1 e2; exact n1 (r2 ht) hs (by omega)
  | d d e f ht => simp only [Prod.mk.injEq] at e1 e2; exact n1 ht hs (by omega)
 | b a b c hs =>
  cases h2 with
  | a d e f ht => simp only [Prod.mk.injEq] at e1 e2; exact n1 hs ht (by omega)
  | b d e f ht => simp only [Prod.mk.injEq] at e1 e2; exact n1 (r2 hs) ht (by omega)
  | c d e f ht => simp only [Prod.mk.injEq] at e1 e2; exact key _ _ _ hs _ _ _ ht (by omega) (by omega) (by omega)
  | d d e f ht => simp only [Prod.mk.injEq] at e1 e2; exact n1 (r1 ht) hs (by omega)
 | c a b c hs =>
  cases h2 with
  | a d e f ht => simp only [Prod.mk.injEq] at e1 e2; exact n1 (r2 hs) ht (by omega)
  | b d e f ht => simp only [Prod.mk.injEq] at e1 e2; exact key _ _ _ hs _ _ _ ht (by omega) (by omega) (by omega)
  | c d e f ht => simp only [Prod.mk.injEq] at e1 e2; exact n1 hs ht (by omega)
  | d d e f ht => simp only [Prod.mk.injEq] at e1 e2; exact n1 (r2 ht) hs (by omega)
 | d a b c hs =>
  cases h2 with
  | a d e f ht => simp only [Prod.mk.injEq] at e1 e2; exact n1 hs ht (by omega)
  | b d e f ht => simp only [Prod.mk.injEq] at e1 e2; exact n1 (r1 hs) ht (by omega)
  | c d e f ht => simp only [Prod.mk.injEq] at e1 e2; exact n1 (r2 hs) ht (by omega)
  | d d e f ht =>
   simp only [Prod.mk.injEq] at e1 e2
   have d1 := h.dis hs
   have d2 := h.dis ht
   have i1 := m.inj _ _ _ hs _ _ _ ht (by omega)
   have i2 := m.inj _ _ _ (r2 hs) _ _ _ (r1 ht) (by omega)
   have i3 := m.inj _ _ _ (r1 hs) _ _ _ (r2 ht) (by omega)
   have : d = b /\ e = a /\ f = c := by omega
   obtain ⟨rfl, rfl, rfl⟩ := this
   exact h.np _ _ _ (r1 hs) ht
theorem cut_ways (h : WB S) (m : Mid S mid) : ((cutS mid S).map way).Nodup := by
 have n1 : ∀ {a b c d e f : Int}, (a, b, c) ∈ S -> (d, e, f) ∈ S -> mid a b ≠ d := fun hs ht => m.new _ _ _ hs _ _ _ ht
 have r1 : ∀ {a b c : Int}, (a, b, c) ∈ S -> (b, c, a) ∈ S := fun hs => h.rot _ hs
 have r2 : ∀ {a b c : Int}, (a, b, c) ∈ S -> (c, a, b) ∈ S := fun hs => h.rot _ (h.rot _ hs)
 unfold cutS
 rw [List.map_flatMap]
 have nd := h.nd
 rw [List.nodup_iff_pairwise_ne, List.pairwise_map] at nd
 rw [List.nodup_iff_pairwise_ne, List.pairwise_flatMap]
 refine ⟨fun ⟨a, b, c⟩ hs => ?_, nd.imp_of_mem fun {s t} hs ht ne => ?_⟩
 ·have d := h.dis hs
  have a1 := n1 hs hs
  have a2 := n1 (r2 hs) hs
  have a3 : mid a b ≠ mid c a := fun e => by have := m.inj _ _ _ hs _ _ _ (r2 hs) e; omega
  have a4 : mid b c ≠ mid c a := fun e => by have := m.inj _ _ _ (r1 hs) _ _ _ (r2 hs) e; omega
  have k : ∀ {x y z w : Int}, (x = z -> y = w -> False) -> (x, y) ≠ (z, w) := fun h e => by
   injection e with e1 e2
   exact h e1 e2
  show List.Pairwise _ [(a, mid a b), (mid a b, mid c a), (mid c a, a), (mid a b, mid b c)]
  refine .cons ?_ (.cons ?_ (.cons ?_ (.cons (by simp) .nil)))
  ·simp only [List.mem_cons, List.not_mem_nil, or_false, forall_eq_or_imp, forall_eq]
   exact ⟨k fun x _ => a1 x.symm, k fun x _ => a2 x.symm, k fun x _ => a1 x.symm⟩
  ·simp only [List.mem_cons, List.not_mem_nil, or_false, forall_eq_or_imp, forall_eq]
   exact ⟨k fun x _ => a3 x, k fun _ y => a4 y.symm⟩
  ·simp only [List.mem_cons, List.not_mem_nil, or_false, forall_eq]
   exact k fun x _ => a3 x.symm
 ·obtain ⟨a, b, c⟩ := s
  obtain ⟨d, e, f⟩ := t
  have d1 := h.dis hs
  have d2 := h.dis ht
  have nw : ¬ (a = d /\ b = e) := fun ⟨x, y⟩ => ne (by simp [way, x, y])
  clear ne
  have a1 := n1 hs ht
  have a2 := n1 (r1 hs) ht
  have a3 := n1 (r2 hs) ht
  have b1 := n1 ht hs
  have b2 := n1 (r1 ht) hs
  have b3 := n1 (r2 ht) hs
  have i1 := m.inj _ _ _ hs _ _ _ ht
  have i2 := m.inj _ _ _ (r2 hs) _ _ _ (r2 ht)
  have i3 := m.inj _ _ _ (r2 hs) _ _ _ (r1 ht)
  have i4 := m.inj _ _ _ (r1 hs) _ _ _ (r2 ht)
  have i5 := m.inj _ _ _ (r1 hs) _ _ _ (r1 ht)
  have np1 : ¬ (a = e /\ b = d /\ c = f) := fun ⟨x, y, z⟩ => by
   subst x y z
   exact h.np _ _ _ (r1 hs) ht
  have two : ¬ (a = d /\ c = f) := fun ⟨x, y⟩ => by
   subst x y
   exact nw ⟨rfl, way_one h.nd (r2 hs) (r2 ht)⟩
  intro x hx y hy e0
  simp only [cut4, List.map_cons, List.map_nil, way, List.mem_cons, List.not_mem_nil, or_false] at hx hy
  rcases hx with rfl | rfl | rfl | rfl <;> rcases hy with rfl | rfl | rfl | rfl <;> simp only [Prod.mk.injEq] at e0 <;> obtain ⟨x, y⟩ := e0 <;> first | exact a1 x | exact a1 y | exact a2 x | exact a2 y | exact a3 x | exact a3 y | exact b1 x.symm | exact b1 y.symm | exact b2 x.symm | exact b2 y.symm | exact b3 x.symm | exact b3 y.symm | skip
  ·have := i1 y; clear i1 i2 i3 i4 i5 np1; omega
  ·have j1 := i1 x; have j2 := i2 y; clear i1 i2 i3 i4 i5 two; omega
  ·have j1 := i1 x; have j2 := i3 y; clear i1 i2 i3 i4 i5 two; omega
  ·have j1 := i2 x; clear i1 i2 i3 i4 i5 np1; omega
  ·have j1 := i1 x; have j2 := i4 y; clear i1 i2 i3 i4 i5 two; omega
  ·have j1 := i1 x; have j2 := i5 y; clear i1 i2 i3 i4 i5 two np1; omega
theorem cut_wb (h : WB S) (m : Mid S mid) : WB (cutS mid S) where
 rot := fun t ht => mem_cut.mpr (cut_rot h (mem_cut.mp ht))
 nd := cut_ways h m
 irr := fun t ht => cut_irr h m (mem_cut.mp ht)
 np := fun a b c h1 h2 => cut_np h m (mem_cut.mp h1) (mem_cut.mp h2)
end
section
variable {S : List Tri} {mid : Int -> Int -> Int}
theorem lnk_fst (nd : (S.map way).Nodup) (v : Int) : ((lnk v S).map (·.1)).Nodup := by
 induction S with
 | nil => exact List.nodup_nil
 | cons t S ih =>
  obtain ⟨a, b, c⟩ := t
  rw [List.map_cons, List.nodup_cons] at nd
  by_cases e : a = v
  ·subst e
   rw [lnk_yes, List.map_cons, List.nodup_cons]
   refine ⟨fun m => ?_, ih nd.2⟩
   obtain ⟨p, hp, e⟩ := List.mem_map.mp m
   have e : p.1 = b := e
   exact nd.1 (List.mem_map.mpr ⟨_, mem_lnk.mp hp, by simp [way, e]⟩)
  ·rw [lnk_no e]
   exact ih nd.2
theorem lnk_nd (h : WB S) (v : Int) : (lnk v S).Nodup := List.Pairwise.of_map _ (fun _ _ h e => h (congrArg _ e)) (lnk_fst h.nd v)
theorem WB.perm {T : List Tri} (h : WB S) (p : T.Perm S) : WB T where
 rot := fun t ht => p.mem_iff.mpr (h.rot t (p.mem_iff.mp ht))
 nd := (p.map way).nodup_iff.mpr h.nd
 irr := fun t ht => h.irr t (p.mem_iff.mp ht)
 np := fun a b c h1 h2 => h.np a b c (p.mem_iff.mp h1) (p.mem_iff.mp h2)
theorem mem_old (h : WB S) (m : Mid S mid) {v b0 c0 : Int} (hv : (v, b0, c0) ∈ S) {x y : Int} : (v, x, y) ∈ cutS mid S ↔ ∃ b c, (v, b, c) ∈ S /\ x = mid v b /\ y = mid c v := by
 rw [mem_cut]
 constructor
 ·intro ht
  generalize e : (v, x, y) = t at ht
  cases ht with
  | a a b c hs =>
   simp only [Prod.mk.injEq] at e
   obtain ⟨rfl, rfl, rfl⟩ := e
   exact ⟨b, c, hs, rfl, rfl⟩
  | b a b c hs => simp only [Prod.mk.injEq] at e; exact absurd e.1.symm (m.new _ _ _ hs _ _ _ hv)
  | c a b c hs => simp only [Prod.mk.injEq] at e; exact absurd e.1.symm (m.new _ _ _ (h.r2 hs) _ _ _ hv)
  | d a b c hs => simp only [Prod.mk.injEq] at e; exact absurd e.1.symm (m.new _ _ _ hs _ _ _ hv)
 ·rintro ⟨b, c, hs, rfl, rfl⟩
  exact .a v b c hs
theorem lnk_old (h : WB S) (m : Mid S mid) {v b0 c0 : Int} (hv : (v, b0, c0) ∈ S) : (lnk v (cutS mid S)).Perm ((lnk v S).map fun p => (mid v p.1, mid v p.2)) := by
 refine (List.perm_ext_iff_of_nodup (lnk_nd (cut_wb h m) v) ?_).mpr fun p => ?_
 ·have := lnk_fst h.nd v
  rw [List.nodup_iff_pairwise_ne, List.pairwise_map] at this
  rw [List.nodup_iff_pairwise_ne, List.pairwise_map]
  refine this.imp_of_mem fun {p q} hp hq ne e => ne ?_
  have e1 : mid v p.1 = mid v q.1 := congrArg (·.1) e
  have := m.inj _ _ _ (mem_lnk.mp hp) _ _ _ (mem_lnk.mp hq) e1
  have := h.dis (mem_lnk.mp hp)
  omega
 ·rw [mem_lnk, mem_old h m hv, List.mem_map]
  constructor
  ·rintro ⟨b, c, hs, e1, e2⟩
   exact ⟨(b, c), mem_lnk.mpr hs, Prod.ext e1.symm (by rw [e2]; exact m.sym v c)⟩
  ·rintro ⟨⟨b, c⟩, hp, rfl⟩
   exact ⟨b, c, mem_lnk.mp hp, rfl, by show mid v c = mid c v; exact m.sym _ _⟩
theorem row_old (h : WB S) (m : Mid S mid) {v : Int} {r : List Int} {cl : Bool} (hr : Row (lnk v S) r cl) : Row (lnk v (cutS mid S)) (r.map (mid v)) cl := by
 have ne : ∃ b c, (v, b, c) ∈ S := by
  have lo := hr.lo
  have : r ≠ [] := fun e => by rw [e] at lo; simp at lo
  obtain ⟨x, q, rfl⟩ := List.exists_cons_of_ne_nil this
  obtain ⟨p, hp, _⟩ := hr.mem_r (List.mem_cons_self (a := x) (l := q))
  exact ⟨_, _, mem_lnk.mp hp⟩
 obtain ⟨b0, c0, hv⟩ := ne
 refine (hr.map (mid v) fun x hx y hy e => ?_).perm (lnk_old h m hv)
 have at_ : ∀ x ∈ r, ∃ c, (v, x, c) ∈ S \/ (x, v, c) ∈ S := fun x hx => by
  obtain ⟨p, hp, e | e⟩ := hr.mem_r hx
  ·exact ⟨p.2, .inl (by rw [<- e]; exact mem_lnk.mp hp)⟩
  ·exact ⟨p.1, .inr (by rw [<- e]; exact h.r2 (mem_lnk.mp hp))⟩
 obtain ⟨c, hc⟩ := at_ x hx
 obtain ⟨d, hd⟩ := at_ y hy
 rcases hc with hc | hc <;> rcases hd with hd | hd
 ·have := m.inj _ _ _ hc _ _ _ hd e
  have := h.dis hc
  omega
 ·have := m.inj _ _ _ hc _ _ _ hd (by rw [m.sym y v]; exact e)
  have := h.dis hc
  omega
 ·have := m.inj _ _ _ hc _ _ _ hd (by rw [m.sym x v]; exact e)
  have := h.dis hc
  omega
 ·have := m.inj _ _ _ hc _ _ _ hd (by rw [m.sym x v, m.sym y v]; exact e)
  have := h.dis hc
  omega
def rnd (mid : Int -> Int -> Int) (a b c : Int) : List (Int × Int) := [(b, mid b c), (mid b c, mid c a), (mid c a, a)]
theorem mem_new (h : WB S) (m : Mid S mid) {a b c : Int} (hs : (a, b, c) ∈ S) {p : Int × Int} : p ∈ lnk (mid a b) (cutS mid S) ↔ p ∈ rnd mid a b c \/ ∃ d, (b, a, d) ∈ S /\ p ∈ rnd mid b a d := by
 obtain ⟨x, y⟩ := p
 rw [mem_lnk, mem_cut]
 have in1 : ∀ {a b c : Int}, (x, y) ∈ rnd mid a b c ↔ (x = b /\ y = mid b c) \/ (x = mid b c /\ y = mid c a) \/ (x = mid c a /\ y = a) := by
  intro a b c
  simp [rnd]
 constructor
 ·intro ht
  generalize e : (mid a b, x, y) = t at ht
  cases ht with
  | a a' b' c' ht => simp only [Prod.mk.injEq] at e; exact absurd e.1 (m.new _ _ _ hs _ _ _ ht)
  | b a' b' c' ht =>
   simp only [Prod.mk.injEq] at e
   obtain ⟨e1, rfl, rfl⟩ := e
   rcases m.inj _ _ _ hs _ _ _ ht e1 with ⟨rfl, rfl⟩ | ⟨rfl, rfl⟩
   ·rw [way_one h.nd hs ht]
    exact .inl (in1.mpr (.inr (.inr ⟨rfl, rfl⟩)))
   ·exact .inr ⟨c', ht, in1.mpr (.inr (.inr ⟨rfl, rfl⟩))⟩
  | c a' b' c' ht =>
   simp only [Prod.mk.injEq] at e
   obtain ⟨e1, rfl, rfl⟩ := e
   rcases m.inj _ _ _ hs _ _ _ (h.r2 ht) e1 with ⟨rfl, rfl⟩ | ⟨rfl, rfl⟩
   ·rw [way_one h.nd hs (h.r2 ht)]
    exact .inl (in1.mpr (.inl ⟨rfl, rfl⟩))
   ·exact .inr ⟨b', h.r2 ht, in1.mpr (.inl ⟨rfl, rfl⟩)⟩
  | d a' b' c' ht =>
   simp only [Prod.mk.injEq] at e
   obtain ⟨e1, rfl, rfl⟩ := e
   rcases m.inj _ _ _ hs _ _ _ ht e1 with ⟨rfl, rfl⟩ | ⟨rfl, rfl⟩
   ·rw [way_one h.nd hs ht]
    exact .inl (in1.mpr (.inr (.inl ⟨rfl, rfl⟩)))
   ·exact .inr ⟨c', ht, in1.mpr (.inr (.inl ⟨rfl, rfl⟩))⟩
 ·have back : ∀ {a b c : Int}, (a, b, c) ∈ S -> (x, y) ∈ rnd mid a b c -> Ct S mid (mid a b, x, y) := by
   intro a b c hs hp
   rcases in1.mp hp with ⟨rfl, rfl⟩ | ⟨rfl, rfl⟩ | ⟨rfl, rfl⟩
   ·exact .c _ _ _ (h.r1 hs)
   ·exact .d _ _ _ hs
   ·exact .b _ _ _ hs
  rintro (hp | ⟨d, hd, hp⟩)
  ·exact back hs hp
  ·rw [m.sym a b]
   exact back hd hp
theorem new_ne (h : WB S) (m : Mid S mid) {a b c : Int} (hs : (a, b, c) ∈ S) : mid b c ≠ mid c a /\ b ≠ mid b c /\ b ≠ mid c a /\ a ≠ mid b c /\ a ≠ mid c a := by
 refine ⟨fun e => ?_, fun e => m.new _ _ _ (h.r1 hs) _ _ _ (h.r1 hs) e.symm, fun e => m.new _ _ _ (h.r2 hs) _ _ _ (h.r1 hs) e.symm, fun e => m.new _ _ _ (h.r1 hs) _ _ _ hs e.symm, fun e => m.new _ _ _ (h.r2 hs) _ _ _ hs e.symm⟩
 have := m.inj _ _ _ (h.r1 hs) _ _ _ (h.r2 hs) e
 have := h.dis hs
 omega
theorem row_in (h : WB S) (m : Mid S mid) {a b c d : Int} (hs : (a, b, c) ∈ S) (ht : (b, a, d) ∈ S) : Row (lnk (mid a b) (cutS mid S)) [b, mid b c, mid c a, a, mid a d, mid d b] true := by
 have n1 := new_ne h m hs
 have n2 := new_ne h m ht
 have ab := h.dis hs
 have ba := h.dis ht
 have cd : c ≠ d := fun e => by subst e; exact h.np _ _ _ (h.r1 hs) ht
 have x1 : mid b c ≠ mid a d := fun e => by have := m.inj _ _ _ (h.r1 hs) _ _ _ (h.r1 ht) e; omega
 have x2 : mid b c ≠ mid d b := fun e => by have := m.inj _ _ _ (h.r1 hs) _ _ _ (h.r2 ht) e; omega
 have x3 : mid c a ≠ mid a d := fun e => by have := m.inj _ _ _ (h.r2 hs) _ _ _ (h.r1 ht) e; omega
 have x4 : mid c a ≠ mid d b := fun e => by have := m.inj _ _ _ (h.r2 hs) _ _ _ (h.r2 ht) e; omega
 have nd : [b, mid b c, mid c a, a, mid a d, mid d b].Nodup := by
  simp only [List.nodup_cons, List.mem_cons, List.not_mem_nil, or_false, not_or, not_false_eq_true, List.nodup_nil, and_true]
  exact ⟨⟨n1.2.1, n1.2.2.1, ab.1.symm, n2.2.2.2.1, n2.2.2.2.2⟩, ⟨n1.1, n1.2.2.2.1.symm, x1, x2⟩, ⟨n1.2.2.2.2.symm, x3, x4⟩, ⟨n2.2.1, n2.2.2.1⟩, n2.1⟩
 have est : stp [b, mid b c, mid c a, a, mid a d, mid d b] true = rnd mid a b c ++ rnd mid b a d := rfl
 refine ⟨nd, ?_, by simp, by simp, fun _ => by simp⟩
 rw [est]
 refine (List.perm_ext_iff_of_nodup (lnk_nd (cut_wb h m) _) ?_).mpr fun p => ?_
 ·refine List.Pairwise.of_map (·.1) (fun _ _ h e => h (congrArg _ e)) (?_ : ((rnd mid a b c ++ rnd mid b a d).map (·.1)).Nodup)
  exact nd
 ·rw [mem_new h m hs, List.mem_append]
  constructor
  ·rintro (hp | ⟨d', hd, hp⟩)
   ·exact .inl hp
   ·rw [way_one h.nd ht hd]
    exact .inr hp
  ·rintro (hp | hp)
   ·exact .inl hp
   ·exact .inr ⟨d, ht, hp⟩
theorem row_rim (h : WB S) (m : Mid S mid) {a b c : Int} (hs : (a, b, c) ∈ S) (ht : (b, a) ∉ S.map way) : Row (lnk (mid a b) (cutS mid S)) [b, mid b c, mid c a, a] false := by
 have n1 := new_ne h m hs
 have ab := h.dis hs
 have nd : [b, mid b c, mid c a, a].Nodup := by
  simp only [List.nodup_cons, List.mem_cons, List.not_mem_nil, or_false, not_or, not_false_eq_true, List.nodup_nil, and_true]
  exact ⟨⟨n1.2.1, n1.2.2.1, ab.1.symm⟩, ⟨n1.1, n1.2.2.2.1.symm⟩, n1.2.2.2.2.symm⟩
 have est : stp [b, mid b c, mid c a, a] false = rnd mid a b c := rfl
 refine ⟨nd, ?_, by simp, by simp, fun z => by cases z⟩
 rw [est]
 refine (List.perm_ext_iff_of_nodup (lnk_nd (cut_wb h m) _) ?_).mpr fun p => ?_
 ·refine List.Pairwise.of_map (·.1) (fun _ _ h e => h (congrArg _ e)) (?_ : ((rnd mid a b c).map (·.1)).Nodup)
  exact nd.sublist (List.sublist_append_left [b, mid b c, mid c a] [a])
 ·rw [mem_new h m hs]
  constructor
  ·rintro (hp | ⟨d', hd, hp⟩)
   ·exact hp
   ·exact absurd (List.mem_map.mpr ⟨_, hd, rfl⟩) ht
  ·exact .inl
def cutF (mid : Int -> Int -> Int) (F : List Tri) : List Tri := F.flatMap fun t => [(t.1, mid t.1 t.2.1, mid t.2.2 t.1), (t.2.1, mid t.2.1 t.2.2, mid t.1 t.2.1), (t.2.2, mid t.2.2 t.1, mid t.2.1 t.2.2), (mid t.1 t.2.1, mid t.2.1 t.2.2, mid t.2.2 t.1)]
theorem cut_spokes (mid : Int -> Int -> Int) (F : List Tri) : (spokes (cutF mid F)).Perm (cutS mid (spokes F)) := by
 induction F with
 | nil => exact .nil
 | cons t F ih =>
  have e1 : cutF mid (t :: F) = [(t.1, mid t.1 t.2.1, mid t.2.2 t.1), (t.2.1, mid t.2.1 t.2.2, mid t.1 t.2.1), (t.2.2, mid t.2.2 t.1, mid t.2.1 t.2.2), (mid t.1 t.2.1, mid t.2.1 t.2.2, mid t.2.2 t.1)] ++ cutF mid F := rfl
  have e2 : cutS mid (spokes (t :: F)) = cutS mid (spk t) ++ cutS mid (spokes F) := by
   rw [spokes_cons]
   unfold cutS
   rw [List.flatMap_append]
  rw [e1, e2, spokes_app]
  refine List.Perm.append ?_ ih
  obtain ⟨a, b, c⟩ := t
  -- the twelve, by their numbers
  let f : Nat -> Tri := fun i => [(a, mid a b, mid c a), (mid a b, mid c a, a), (mid c a, a, mid a b), (mid a b, mid b c, mid c a), (b, mid b c, mid a b), (mid b c, mid a b, b), (mid a b, b, mid b c), (mid b c, mid c a, mid a b), (c, mid c a, mid b c), (mid c a, mid b c, c), (mid b c, c, mid c a), (mid c a, mid a b, mid b c)].getD i (0, 0, 0)
  have p : ([0, 1, 2, 4, 5, 6, 8, 9, 10, 3, 7, 11] : List Nat).Perm [0, 1, 2, 3, 4, 5, 6, 7, 8, 9, 10, 11] := by decide
  exact p.map f
theorem cutF_wb {F : List Tri} (h : WB (spokes F)) (m : Mid (spokes F) mid) : WB (spokes (cutF mid F)) := (cut_wb h m).perm (cut_spokes mid F)
theorem cutF_len (mid : Int -> Int -> Int) (F : List Tri) : (cutF mid F).length = 4 * F.length := by
 induction F with
 | nil => rfl
 | cons t F ih =>
  have : (cutF mid (t :: F)).length = 4 + (cutF mid F).length := by unfold cutF; rw [List.flatMap_cons, List.length_append]; rfl
  rw [this, ih, List.length_cons]
  omega
theorem lnk_cutF {F : List Tri} (v : Int) : (lnk v (spokes (cutF mid F))).Perm (lnk v (cutS mid (spokes F))) := lnk_perm (cut_spokes mid F)
def Nb8 (S : List Tri) : Prop := ∀ v, ∃ R : List Int, R.length ≤ 8 /\ ∀ p ∈ lnk v S, p.1 ∈ R /\ p.2 ∈ R
theorem Nb8.sub {S T : List Tri} (h : Nb8 S) (s : ∀ t ∈ T, t ∈ S) : Nb8 T := fun v => by
 obtain ⟨R, h1, h2⟩ := h v
 exact ⟨R, h1, fun p hp => h2 p (mem_lnk.mpr (s _ (mem_lnk.mp hp)))⟩
theorem cut_nb8 (h : WB S) (m : Mid S mid) (n : Nb8 S) : Nb8 (cutS mid S) := fun v => by
 cases e : lnk v (cutS mid S) with
 | nil => exact ⟨[], by simp, by simp⟩
 | cons p L =>
  have hp : p ∈ lnk v (cutS mid S) := by rw [e]; exact List.mem_cons_self
  rw [<- e]
  have new : ∀ {a b c : Int}, (a, b, c) ∈ S -> ∃ R : List Int, R.length ≤ 8 /\ ∀ p ∈ lnk (mid a b) (cutS mid S), p.1 ∈ R /\ p.2 ∈ R := fun {a b c} hs => by
   by_cases hw : (b, a) ∈ S.map way
   ·obtain ⟨⟨x, y, d⟩, ht, e⟩ := List.mem_map.mp hw
    simp only [way, Prod.mk.injEq] at e
    obtain ⟨rfl, rfl⟩ := e
    exact ⟨_, by simp, fun p hp => (row_in h m hs ht).mem_l (x := p.1) (y := p.2) hp⟩
   ·exact ⟨_, by simp, fun p hp => (row_rim h m hs hw).mem_l (x := p.1) (y := p.2) hp⟩
  have ht := mem_cut.mp (mem_lnk.mp hp)
  generalize et : (v, p.1, p.2) = t at ht
  cases ht with
  | a a b c hs =>
   simp only [Prod.mk.injEq] at et
   obtain ⟨R, h1, h2⟩ := n a
   refine ⟨R.map (mid a), by rw [List.length_map]; exact h1, fun q hq => ?_⟩
   rw [et.1] at hq
   obtain ⟨r, hr, rfl⟩ := List.mem_map.mp ((lnk_old h m hs).mem_iff.mp hq)
   exact ⟨List.mem_map.mpr ⟨_, (h2 r hr).1, rfl⟩, List.mem_map.mpr ⟨_, (h2 r hr).2, rfl⟩⟩
  | b a b c hs => simp only [Prod.mk.injEq] at et; rw [et.1]; exact new hs
  | c a b c hs => simp only [Prod.mk.injEq] at et; rw [et.1]; exact new (h.r2 hs)
  | d a b c hs => simp only [Prod.mk.injEq] at et; rw [et.1]; exact new hs
end
end Cg
namespace Ck
open PySem PySem.Spec Mp Cg
open PyProof.Rows hiding cutD
open L2 hiding way
def numD (ps : List IP) (f : IP -> Int) : D := .dT (ps.map pk) (ps.map fun p => .int (f p))
theorem num_put {ps : List IP} {f : IP -> Int} {p : IP} (h : p ∉ ps) (hl : ps.length < 900000) : putD (numD ps f) (pD p) (.int (f p)) = some (numD (ps ++ [p]) f) := by
 have e : hasK ([Sum.inl p.1, Sum.inl p.2] : List Key) (ps.map pk) = false := hasK_no fun z => h (pk_mem.mp z)
 unfold numD
 show (if (ps.map pk).length < 900000 then some (D.dT (putKs [Sum.inl p.1, Sum.inl p.2] (ps.map pk)) (putVs [Sum.inl p.1, Sum.inl p.2] (.int (f p)) (ps.map pk) (ps.map fun p => D.int (f p)))) else none) = _
 rw [if_pos (by simpa using hl)]
 unfold putKs putVs
 rw [e, if_neg Bool.false_ne_true, if_neg Bool.false_ne_true, List.map_append, List.map_append]
 rfl
theorem num_ix {ps : List IP} {f : IP -> Int} {p : IP} (nd : ps.Nodup) (h : p ∈ ps) : gIx (numD ps f) (pD p) = some (.int (f p)) := by
 have nk : (ps.map pk).Nodup := List.pairwise_map.mpr (nd.imp fun {a b} ne e => ne (by
  simp only [pk, List.cons.injEq, Sum.inl.injEq, and_true] at e
  exact Prod.ext e.1 e.2))
 have := valD_in pk (fun p => D.int (f p)) nk h
 unfold numD
 show valD (ps.map pk) (ps.map fun p => D.int (f p)) (pk p) = _
 exact this
def fst1 (N : NC) : Int := (maxI (ckeys N)).getD 0 + 1
def numOf (F : List Tri) (N : NC) (p : IP) : Int := fst1 N + ((allL F).idxOf p : Nat)
theorem allL_nd (F : List Tri) : (allL F).Nodup := (sortP_perm _).nodup_iff.mpr (sidesU_all _).1
theorem allL_mem {F : List Tri} {p : IP} : p ∈ allL F ↔ ∃ t ∈ spokes F, p = pr t.1 t.2.1 := by
 unfold allL
 rw [(sortP_perm _).mem_iff, (sidesU_all _).2]
theorem pr_inj {a b d e : Int} (h : pr a b = pr d e) : (a = d /\ b = e) \/ (a = e /\ b = d) := by
 unfold pr at h
 have h1 := congrArg (·.1) h
 have h2 := congrArg (·.2) h
 simp only at h1 h2
 split at h1 <;> split at h1 <;> split at h2 <;> split at h2 <;> omega
theorem idx_inj {l : List IP} {p q : IP} (hp : p ∈ l) (hq : q ∈ l) (h : l.idxOf p = l.idxOf q) : p = q := by
 have h1 := List.getElem_idxOf (List.idxOf_lt_length_of_mem hp)
 have h2 := List.getElem_idxOf (List.idxOf_lt_length_of_mem hq)
 rw [<- h1, <- h2]
 congr 1
theorem fst1_gt {S : List Tri} {N : NC} (hN : NestOk S N) {t : Tri} (ht : t ∈ S) : t.1 < fst1 N := by
 obtain ⟨_, _, k3⟩ := hN.ck
 have hk := (k3 t.1).mpr ⟨t, ht, rfl⟩
 obtain ⟨m, hm⟩ := maxI_some (ns := ckeys N) (fun z => by rw [z] at hk; cases hk)
 unfold fst1
 rw [hm]
 have := (maxI_ok hm).2 _ hk
 show t.1 < m + 1
 omega
abbrev midF (F : List Tri) (N : NC) (a b : Int) : Int := numOf F N (pr a b)
theorem num_mid {F : List Tri} {N : NC} (hN : NestOk (spokes F) N) : Cg.Mid (spokes F) (midF F N) where
 sym := fun a b => by show numOf F N (pr a b) = numOf F N (pr b a); rw [pr_comm]
 inj := fun a b c hs d e f ht h => by
  have h1 : pr a b ∈ allL F := allL_mem.mpr ⟨_, hs, rfl⟩
  have h2 : pr d e ∈ allL F := allL_mem.mpr ⟨_, ht, rfl⟩
  refine pr_inj (idx_inj h1 h2 ?_)
  have h : fst1 N + ((allL F).idxOf (pr a b) : Nat) = fst1 N + ((allL F).idxOf (pr d e) : Nat) := h
  omega
 new := fun a b c hs d e f ht h => by
  have := fst1_gt hN ht
  have h : fst1 N + ((allL F).idxOf (pr a b) : Nat) = d := h
  omega
theorem aft_list {S : List Tri} {N : NC} (h : NestOk S N) : gListB (aftD N) = some (.own (.lst ((ckeys N).map D.int))) := by
 have := aft_keys h
 unfold aftD at this ⊢
 show some (Slot.own (.lst ((N.map (·.1)).map kD))) = _
 have this : some ((N.map (·.1)).map kD) = some ((ckeys N).map D.int) := this
 rw [Option.some.inj this]
theorem numbered_wr {F : List Tri} (h : Prt F) {N : NC} {T : List IP} {Q : List Int} (hN : NestOk (spokes F) N) (ne : F ≠ []) : WR (m_numbered [.v (webD F N T Q)]) fun s _ => s = .own (numD (allL F) (numOf F N)) := by
 have few : (allL F).length ≤ 900 := by
  unfold allL
  rw [(sortP_perm _).length_eq]
  exact h.few fun t ht => ht
 obtain ⟨k1, k2, k3⟩ := hN.ck
 have cne : ckeys N ≠ [] := by
  obtain ⟨t, F', rfl⟩ := List.exists_cons_of_ne_nil ne
  have := (k3 t.1).mpr ⟨t, mem_spokes List.mem_cons_self, rfl⟩
  intro z
  rw [z] at this
  cases this
 unfold m_numbered b_numbered
 obtain ⟨m, hm⟩ := maxI_some cne
 have hf : fst1 N = m + 1 := by unfold fst1; rw [hm]; rfl
 have gmax : gMaxL (.lst ((ckeys N).map D.int)) = some (.v (.int m)) := by
  show ((ints? ((ckeys N).map D.int)).bind fun ns => (maxI ns).map fun m => Slot.v (D.int m)) = _
  rw [ints_map, Option.bind_some, hm]
  rfl
 refine wr_fnM (ws_seq (ws_set1 (wr_op (wr_call1 (wr_call1 (wr_fldV rfl web_after ⟨_, rfl, _, aft_list hN, _, rfl, _, gmax, _, rfl, wr_c ⟨_, rfl, _, rfl, rfl, ?_⟩⟩))))))
 refine ws_ret (wr_dcI (wi_enum (wl_cons (wr_fldV rfl web_pairs ⟨_, rfl, wl_nil ⟨_, rfl, ?_⟩⟩))))
 refine ⟨rfl, fun j acc ρ => acc = numD ((allL F).take j) (numOf F N) /\ ρ = [.v (webD F N T Q), .v (.int (m + 1)), .no, .no], ⟨rfl, rfl⟩, ?_, ?_⟩
 ·rintro j hj acc ρ ⟨rfl, rfl⟩
  rw [enumD_len, List.length_map] at hj
  have e1 : (enumD 0 ((allL F).map pD))[j]'(by rw [enumD_len, List.length_map]; exact hj) = .tup [.int (j : Nat), pD (allL F)[j]] := by
   have := enumD_get 0 ((allL F).map pD) j (pD (allL F)[j]) (by rw [List.getElem?_map, List.getElem?_eq_getElem hj]; rfl)
   rw [List.getElem?_eq_getElem (by rw [enumD_len, List.length_map]; exact hj)] at this
   rw [Nat.zero_add] at this
   exact Option.some.inj this
  rw [e1]
  refine ⟨_, rfl, ?_⟩
  have fresh : (allL F)[j] ∉ (allL F).take j := fun z => by
   have := (allL_nd F).sublist (List.take_sublist (j + 1) (allL F))
   rw [List.take_succ_eq_append_getElem hj, List.nodup_append] at this
   exact this.2.2 _ z _ (by simp) rfl
  have en : numOf F N (allL F)[j] = m + 1 + (j : Nat) := by
   unfold numOf
   rw [hf, List.Nodup.idxOf_getElem (allL_nd F) j hj]
  (refine wb_yes ?_)
  refine ⟨fun _ => ?_, fun z => (by cases z)⟩
  (refine wr_v rfl ?_; refine ⟨_, dat_v, ?_⟩; refine wr_op ?_; refine wr_v rfl ?_; refine ⟨_, dat_v, ?_⟩; refine wr_v rfl ?_; refine ⟨_, dat_v, ?_⟩; refine ⟨_, gAdd_i, ?_⟩; refine ⟨_, dat_v, ?_⟩)
  refine ⟨numD ((allL F).take (j + 1)) (numOf F N), ?_, rfl, rfl⟩
  rw [List.take_succ_eq_append_getElem hj, <- en]
  exact num_put fresh (by rw [List.length_take]; omega)
 rintro acc ρ2 ⟨rfl, rfl⟩
 rw [enumD_len, List.length_map, List.take_length]
theorem pr_all {F : List Tri} {t : Tri} (ht : t ∈ spokes F) : pr t.1 t.2.1 ∈ allL F := allL_mem.mpr ⟨t, ht, rfl⟩
theorem num_at {F : List Tri} {N : NC} {a b c : Int} (ht : (a, b, c) ∈ spokes F) : gIx (numD (allL F) (numOf F N)) (pD (pr a b)) = some (.int (midF F N a b)) := num_ix (allL_nd F) (pr_all ht)
theorem cutF_snoc (mid : Int -> Int -> Int) (L : List Tri) (t : Tri) : cutF mid (L ++ [t]) = cutF mid L ++ [(t.1, mid t.1 t.2.1, mid t.2.2 t.1), (t.2.1, mid t.2.1 t.2.2, mid t.1 t.2.1), (t.2.2, mid t.2.2 t.1, mid t.2.1 t.2.2), (mid t.1 t.2.1, mid t.2.1 t.2.2, mid t.2.2 t.1)] := by
 unfold cutF
 rw [List.flatMap_append]
 rfl
theorem cut_faces_wr {F : List Tri} (hl : F.length ≤ 300) {N : NC} {T : List IP} {Q : List Int} : WR (m_cut_faces [.v (webD F N T Q), .v (numD (allL F) (numOf F N))]) fun s _ => s = .v (fD (cutF (midF F N) F)) := by
  unfold m_cut_faces b_cut_faces
  refine wr_fnM (ws_seq (ws_set1 (wr_lst (wl_nil ⟨rfl, ?_⟩))))
  refine ws_seq (ws_for (wi_lst (wr_fldV rfl web_trios ⟨_, rfl, _, rfl, ?_⟩)))
  let st : List D -> Mp.Slot -> Mp.Slot -> Mp.Slot -> Mp.Slot -> Mp.Slot -> Mp.Slot -> ME := fun L x3 x4 x5 x6 x7 x8 => [.v (webD F N T Q), .v (numD (allL F) (numOf F N)), .own (.lst L), x3, x4, x5, x6, x7, x8]
  refine ws_loop (fun j ρ => ∃ x3 x4 x5 x6 x7 x8, ρ = st ((cutF (midF F N) (F.take j)).map tD) x3 x4 x5 x6 x7 x8) ⟨_, _, _, _, _, _, rfl⟩ ?_ ?_
  · rintro j hj ρ ⟨x3, x4, x5, x6, x7, x8, rfl⟩
    have hj' : j < F.length := by simpa using hj
    rw [List.getElem_map]
    have ht := mem_spokes (List.getElem_mem hj')
    have e0 : cutF (midF F N) (F.take (j + 1)) = cutF (midF F N) (F.take j ++ [F[j]]) := by rw [List.take_succ_eq_append_getElem hj']
    rw [cutF_snoc] at e0
    rcases hF : F[j] with ⟨a, b, c⟩
    rw [hF] at ht e0
    have n1 := num_at (N := N) ht
    have n2 := num_at (N := N) (spokes_rot _ ht)
    have n3 := num_at (N := N) (spokes_rot _ (spokes_rot _ ht))
    refine ⟨_, rfl, ?_⟩
    refine ws_norm (ρ' := st ((cutF (midF F N) (F.take j)).map tD) (.v (.int a)) (.v (.int b)) (.v (.int c)) x6 x7 x8) rfl ?_
    have pw : ∀ (i k : Nat) (x y z : Int) (X6 X7 X8 : Mp.Slot) (QQ : Mp.Slot -> ME -> Prop), (st ((cutF (midF F N) (F.take j)).map tD) (.v (.int a)) (.v (.int b)) (.v (.int c)) X6 X7 X8)[i]? = some (.v (.int x)) -> (st ((cutF (midF F N) (F.take j)).map tD) (.v (.int a)) (.v (.int b)) (.v (.int c)) X6 X7 X8)[k]? = some (.v (.int y)) -> gIx (numD (allL F) (numOf F N)) (pD (pr x y)) = some (.int z) ->
        QQ (.v (.int z)) (st ((cutF (midF F N) (F.take j)).map tD) (.v (.int a)) (.v (.int b)) (.v (.int c)) X6 X7 X8) -> WR (mIxV 1 (mFn m_pair_of (mCons (mVar i) (mCons (mVar k) mNil))) (st ((cutF (midF F N) (F.take j)).map tD) (.v (.int a)) (.v (.int b)) (.v (.int c)) X6 X7 X8)) QQ := by
      intro i k x y z X6 X7 X8 QQ h1 h2 h3 hq
      refine wr_ixV rfl (wr_fn' (wl_cons (wr_v h1 ⟨_, rfl, wl_cons (wr_v h2 ⟨_, rfl, wl_nil ?_⟩)⟩)))
      refine (pair_wr x y).mono fun s y' hs => ?_
      subst hs
      exact ⟨⟨_, rfl⟩, _, rfl, _, _, rfl, h3, hq⟩
    refine ws_seq (ws_par (wl_cons (pw _ _ _ _ _ _ _ _ _ rfl rfl n1 ⟨_, rfl, wl_cons (pw _ _ _ _ _ _ _ _ _ rfl rfl n2 ⟨_, rfl, wl_cons (pw _ _ _ _ _ _ _ _ _ rfl rfl n3 ⟨_, rfl, wl_nil ⟨rfl, ?_⟩⟩)⟩)⟩)))
    refine ws_norm (ρ' := st ((cutF (midF F N) (F.take j)).map tD) (.v (.int a)) (.v (.int b)) (.v (.int c)) (.v (.int (midF F N a b))) (.v (.int (midF F N b c))) (.v (.int (midF F N c a)))) rfl ?_
    refine ws_drop (wr_ext rfl (wr_lst ?_))
    (refine wl_cons ?_; refine wr_tup ?_; refine wl_cons ?_; refine wr_v rfl ?_; refine ⟨_, dat_v, ?_⟩; refine wl_cons ?_; refine wr_v rfl ?_; refine ⟨_, dat_v, ?_⟩; refine wl_cons ?_; refine wr_v rfl ?_; refine ⟨_, dat_v, ?_⟩; refine wl_nil ?_; refine ⟨_, dat_v, ?_⟩; refine wl_cons ?_; refine wr_tup ?_; refine wl_cons ?_; refine wr_v rfl ?_; refine ⟨_, dat_v, ?_⟩; refine wl_cons ?_; refine wr_v rfl ?_; refine ⟨_, dat_v, ?_⟩; refine wl_cons ?_; refine wr_v rfl ?_; refine ⟨_, dat_v, ?_⟩; refine wl_nil ?_; refine ⟨_, dat_v, ?_⟩; refine wl_cons ?_; refine wr_tup ?_; refine wl_cons ?_; refine wr_v rfl ?_; refine ⟨_, dat_v, ?_⟩; refine wl_cons ?_; refine wr_v rfl ?_; refine ⟨_, dat_v, ?_⟩; refine wl_cons ?_; refine wr_v rfl ?_; refine ⟨_, dat_v, ?_⟩; refine wl_nil ?_; refine ⟨_, dat_v, ?_⟩; refine wl_cons ?_; refine wr_tup ?_; refine wl_cons ?_; refine wr_v rfl ?_; refine ⟨_, dat_v, ?_⟩; refine wl_cons ?_; refine wr_v rfl ?_; refine ⟨_, dat_v, ?_⟩; refine wl_cons ?_; refine wr_v rfl ?_; refine ⟨_, dat_v, ?_⟩; refine wl_nil ?_; refine ⟨_, dat_v, ?_⟩; refine wl_nil ?_; refine ⟨_, dat_o, ?_⟩)
    refine ⟨_, _, rfl, rfl, ?_, ?_⟩
    · have := cutF_len (midF F N) (F.take j)
      rw [List.length_map, this, List.length_take]
      simp
      omega
    refine ⟨_, rfl, .v (.int a), .v (.int b), .v (.int c), .v (.int (midF F N a b)), .v (.int (midF F N b c)), .v (.int (midF F N c a)), ?_⟩
    rw [e0, List.map_append]
    rfl
  · rintro ρ ⟨x3, x4, x5, x6, x7, x8, rfl⟩
    rw [List.length_map, List.take_length]
    exact ws_ret (wr_o rfl rfl)
theorem lcm_dvd {L : List Nat} {M : Nat} (h : ∀ x ∈ L, x ∣ M) : lcmL L ∣ M := by
 have key : ∀ (L : List Nat) (a : Nat), a ∣ M -> (∀ x ∈ L, x ∣ M) -> L.foldl Nat.lcm a ∣ M := by
  intro L
  induction L with
  | nil => intro a ha _; exact ha
  | cons x L ih => intro a ha h; exact ih _ (Nat.lcm_dvd ha (h x List.mem_cons_self)) fun y hy => h y (List.mem_cons_of_mem _ hy)
 exact key L 1 (Nat.one_dvd _) h
theorem dvd_lcmL {L : List Nat} : ∀ x ∈ L, x ∣ lcmL L := by
 have key : ∀ (L : List Nat) (a : Nat), a ∣ L.foldl Nat.lcm a /\ ∀ x ∈ L, x ∣ L.foldl Nat.lcm a := by
  intro L
  induction L with
  | nil => intro a; exact ⟨Nat.dvd_refl _, by simp⟩
  | cons y L ih =>
   intro a
   obtain ⟨h1, h2⟩ := ih (Nat.lcm a y)
   refine ⟨Nat.dvd_trans (Nat.dvd_lcm_left a y) h1, fun x hx => ?_⟩
   rcases List.mem_cons.mp hx with rfl | hx
   ·exact Nat.dvd_trans (Nat.dvd_lcm_right a x) h1
   ·exact h2 x hx
 exact (key L 1).2
theorem ite_sum {ks : List Int} (nd : ks.Nodup) {c : Int} (h : c ∈ ks) (v : Int) : (ks.map fun k => if c = k then v else 0).sum = v := by
 induction ks with
 | nil => cases h
 | cons k ks ih =>
  rw [List.nodup_cons] at nd
  rw [List.map_cons, List.sum_cons]
  by_cases e : c = k
  ·subst e
   rw [if_pos rfl]
   have : (ks.map fun k => if c = k then v else 0).sum = 0 := by
    have z : ks.map (fun k => if c = k then v else 0) = ks.map fun _ => (0 : Int) := List.map_congr_left fun k hk => if_neg fun e => nd.1 (by rw [e]; exact hk)
    rw [z]
    clear z ih nd h
    induction ks with
    | nil => rfl
    | cons k ks ih => rw [List.map_cons, List.sum_cons, ih]; rfl
   rw [this, Int.add_zero]
  ·rw [if_neg e, Int.zero_add]
   exact ih nd.2 ((List.mem_cons.mp h).resolve_left e)
theorem sum_add (ks : List Int) (f g : Int -> Int) : (ks.map fun k => f k + g k).sum = (ks.map f).sum + (ks.map g).sum := by
 induction ks with
 | nil => rfl
 | cons k ks ih => rw [List.map_cons, List.map_cons, List.map_cons, List.sum_cons, List.sum_cons, List.sum_cons, ih]; omega
theorem tot_cons (p : Int × Int) (L : List (Int × Int)) (c : Int) : tot (p :: L) c = (if p.1 = c then p.2 else 0) + tot L c := by unfold tot; rw [List.map_cons, List.sum_cons]
theorem tot_sum {ks : List Int} (nd : ks.Nodup) : ∀ {L : List (Int × Int)}, (∀ p ∈ L, p.1 ∈ ks) -> (ks.map (tot L)).sum = (L.map (·.2)).sum
 | [], _ => by
  clear nd
  induction ks with
  | nil => rfl
  | cons k ks ih => rw [List.map_cons, List.sum_cons, ih (by simp)]; rfl
 | p :: L, h => by
  have e : ks.map (tot (p :: L)) = ks.map fun k => (if p.1 = k then p.2 else 0) + tot L k := List.map_congr_left fun k _ => tot_cons p L k
  rw [e, sum_add, ite_sum nd (h p List.mem_cons_self), List.map_cons, List.sum_cons]
  have := tot_sum nd (L := L) fun q hq => h q (List.mem_cons_of_mem _ hq)
  have e2 : (ks.map fun k => tot L k) = ks.map (tot L) := rfl
  rw [e2, this]
theorem tot_pos {L : List (Int × Int)} (pos : ∀ p ∈ L, 0 < p.2) : ∀ {c : Int}, (0 ≤ tot L c) /\ ((∃ p ∈ L, p.1 = c) -> 0 < tot L c) := by
 induction L with
 | nil => intro c; exact ⟨by unfold tot; simp, fun ⟨p, hp, _⟩ => by cases hp⟩
 | cons q L ih =>
  intro c
  obtain ⟨h1, h2⟩ := ih (fun p hp => pos p (List.mem_cons_of_mem _ hp)) (c := c)
  have hq := pos q List.mem_cons_self
  rw [tot_cons]
  refine ⟨by split <;> omega, fun ⟨p, hp, e⟩ => ?_⟩
  rcases List.mem_cons.mp hp with rfl | hp
  ·rw [if_pos e]; omega
  ·have := h2 ⟨p, hp, e⟩
   split <;> omega
theorem sum_le {L : List Int} (h : ∀ x ∈ L, 0 ≤ x) : ∀ x ∈ L, x ≤ L.sum := by
 have nn : ∀ {L : List Int}, (∀ x ∈ L, 0 ≤ x) -> 0 ≤ L.sum := by
  intro L
  induction L with
  | nil => intro _; simp
  | cons x L ih => intro h; rw [List.sum_cons]; have := h x List.mem_cons_self; have := ih fun y hy => h y (List.mem_cons_of_mem _ hy); omega
 induction L with
 | nil => intro x hx; cases hx
 | cons y L ih =>
  intro x hx
  rw [List.sum_cons]
  have h1 := nn fun z hz => h z (List.mem_cons_of_mem _ hz)
  have h2 := h y List.mem_cons_self
  rcases List.mem_cons.mp hx with rfl | hx
  ·omega
  ·have := ih (fun z hz => h z (List.mem_cons_of_mem _ hz)) x hx
   omega
theorem rows_all {L : List (Int × Int)} (pos : ∀ p ∈ L, 0 < p.2) : (rowsL L).map (·.1) = PySem.W.sortI (keyU L) /\ ((rowsL L).map (·.2)).sum = (L.map (·.2)).sum := by
 obtain ⟨k1, k2, k3⟩ := keyU_all L
 have pk := PySem.W.sortI_perm (keyU L)
 have e : rowsL L = (PySem.W.sortI (keyU L)).map fun c => (c, tot L c) := by
  unfold rowsL
  congr 1
  refine List.filter_eq_self.mpr fun c hc => ?_
  rw [decide_eq_true_eq]
  exact (tot_pos pos).2 ((k3 c).mp (pk.mem_iff.mp hc))
 rw [e]
 constructor
 ·rw [List.map_map]
  exact List.map_id _
 ·rw [List.map_map]
  exact tot_sum (pk.nodup_iff.mpr k1) fun p hp => pk.mem_iff.mpr ((k3 _).mpr ⟨p, hp, rfl⟩)
structure WtB (M : Nat) (w : Wt0) : Prop where
 d0 : 0 < w.1
 dv : w.1 ∣ M
 ne : w.2 ≠ []
 nd : (w.2.map (·.1)).Nodup
 rg : ∀ q ∈ w.2, 0 ≤ q.1 /\ q.1 < 24
 ps : ∀ q ∈ w.2, 0 < q.2
 tt : (w.2.map (·.2)).sum = (w.1 : Nat)
theorem WtB.len {M : Nat} {w : Wt0} (h : WtB M w) : w.2.length ≤ 24 := by
 have := Cg.nodup_le h.nd (m := up 24) fun c hc => by
  obtain ⟨q, hq, rfl⟩ := List.mem_map.mp hc
  exact up_mem.mpr (h.rg q hq)
 rwa [List.length_map, up_len] at this
theorem lone_wtb {c : Int} (h0 : 0 ≤ c) (h1 : c < 24) : WtB 1 (lone0 c) where
 d0 := by show 0 < 1; decide
 dv := Nat.dvd_refl 1
 ne := by simp [lone0]
 nd := by simp [lone0]
 rg := fun q hq => by rw [List.mem_singleton.mp hq]; exact ⟨h0, h1⟩
 ps := fun q hq => by rw [List.mem_singleton.mp hq]; show (0 : Int) < 1; decide
 tt := rfl
structure PtB (P : List (Int × Wt0)) (u M : Nat) : Prop where
 ne : P ≠ []
 few : P.length ≤ 100
 ps : ∀ p ∈ P, 0 < p.1
 tt : (P.map (·.1)).sum = (u : Nat)
 ok : ∀ p ∈ P, WtB M p.2
 M0 : 0 < M
 um : u < 2 ^ 62 /\ M < 2 ^ 62
theorem sum_flat {α : Type} (f : α -> List Int) (P : List α) : (P.flatMap f).sum = (P.map fun p => (f p).sum).sum := by
 induction P with
 | nil => rfl
 | cons p P ih => rw [List.flatMap_cons, List.sum_append, List.map_cons, List.sum_cons, ih]
theorem flat_len {P : List (Int × Wt0)} {M : Nat} (ok : ∀ p ∈ P, WtB M p.2) : (flatL P).length ≤ 24 * P.length := by
 unfold flatL
 generalize wideL P = w
 induction P with
 | nil => simp
 | cons p P ih =>
  have l1 := (ok p List.mem_cons_self).len
  have l2 := ih fun q hq => ok q (List.mem_cons_of_mem _ hq)
  rw [List.flatMap_cons, List.length_append, List.length_cons]
  have : (flat1 w p).length = p.2.2.length := by unfold flat1; rw [List.length_map]
  omega
theorem ptb_ok {P : List (Int × Wt0)} {u M : Nat} (h : PtB P u M) : BlOk P u /\ WtB (u * M) (blendF P u) := by
 have wd : wideL P ∣ M := lcm_dvd fun x hx => by
  obtain ⟨p, hp, rfl⟩ := List.mem_map.mp hx
  exact (h.ok p hp).dv
 have w0 : 0 < wideL P := lcmL_pos fun x hx => by
  obtain ⟨p, hp, rfl⟩ := List.mem_map.mp hx
  exact (h.ok p hp).d0
 have wM : wideL P ≤ M := Nat.le_of_dvd h.M0 wd
 have u0 : 0 < u := by
  obtain ⟨p, hp⟩ := List.exists_mem_of_ne_nil _ h.ne
  have a := sum_le (L := P.map (·.1)) (fun x hx => by
   obtain ⟨q, hq, rfl⟩ := List.mem_map.mp hx
   have := h.ps q hq
   omega) p.1 (List.mem_map.mpr ⟨p, hp, rfl⟩)
  have := h.ps p hp
  rw [h.tt] at a
  omega
 have uw : u * wideL P ≤ u * M := Nat.mul_le_mul_left u wM
 have Mu : M ≤ u * M := Nat.le_mul_of_pos_left M u0
 have uM : u ≤ u * M := Nat.le_mul_of_pos_right u h.M0
 have um : u * M < 2 ^ 62 * 2 ^ 62 := Nat.mul_lt_mul_of_lt_of_lt h.um.1 h.um.2
 obtain ⟨um1, um2⟩ := h.um
 have part : ∀ p ∈ P, ∃ k : Nat, 0 < k /\ wideL P = k * p.2.1 /\ ((wideL P : Nat) : Int) / ((p.2.1 : Nat) : Int) = (k : Nat) := fun p hp => by
  obtain ⟨k, hk⟩ := dvd_lcmL (L := P.map fun p => p.2.1) p.2.1 (List.mem_map.mpr ⟨p, hp, rfl⟩)
  have hk : wideL P = p.2.1 * k := hk
  have d0 := (h.ok p hp).d0
  refine ⟨k, Nat.pos_of_ne_zero fun z => by rw [z] at hk; omega, by rw [hk, Nat.mul_comm], ?_⟩
  rw [hk, Int.natCast_mul, Int.mul_ediv_cancel_left _ (by omega)]
 have fpos : ∀ q ∈ flatL P, 0 < q.2 := fun q hq => by
  obtain ⟨p, hp, hq⟩ := List.mem_flatMap.mp hq
  obtain ⟨r, hr, rfl⟩ := List.mem_map.mp hq
  obtain ⟨k, k0, _, e⟩ := part p hp
  show 0 < p.1 * r.2 * (((wideL P : Nat) : Int) / ((p.2.1 : Nat) : Int))
  rw [e]
  exact Int.mul_pos (Int.mul_pos (h.ps p hp) ((h.ok p hp).ps r hr)) (by omega)
 have fkey : ∀ q ∈ flatL P, 0 ≤ q.1 /\ q.1 < 24 := fun q hq => by
  obtain ⟨p, hp, hq⟩ := List.mem_flatMap.mp hq
  obtain ⟨r, hr, rfl⟩ := List.mem_map.mp hq
  exact (h.ok p hp).rg r hr
 have fsum : ((flatL P).map (·.2)).sum = ((u * wideL P : Nat) : Int) := by
  have e1 : (flatL P).map (·.2) = P.flatMap fun p => (flat1 (wideL P) p).map (·.2) := by unfold flatL; rw [List.map_flatMap]
  rw [e1, sum_flat]
  have e2 : (P.map fun p => ((flat1 (wideL P) p).map (·.2)).sum) = (P.map (·.1)).map fun x => x * ((wideL P : Nat) : Int) := by
   rw [List.map_map]
   refine List.map_congr_left fun p hp => ?_
   obtain ⟨k, _, e3, e4⟩ := part p hp
   have e5 : (flat1 (wideL P) p).map (·.2) = (p.2.2.map (·.2)).map fun x => x * (p.1 * (k : Nat)) := by
    unfold flat1
    rw [List.map_map, List.map_map]
    refine List.map_congr_left fun q _ => ?_
    show p.1 * q.2 * (((wideL P : Nat) : Int) / ((p.2.1 : Nat) : Int)) = q.2 * (p.1 * (k : Nat))
    rw [e4, Int.mul_comm p.1, Int.mul_assoc]
   show ((flat1 (wideL P) p).map (·.2)).sum = p.1 * ((wideL P : Nat) : Int)
   rw [e5, sum_scale, (h.ok p hp).tt, e3, Int.natCast_mul, Int.mul_left_comm, Int.mul_comm (p.2.1 : Int)]
  rw [e2, sum_scale, h.tt, Int.natCast_mul]
 obtain ⟨r1, r2⟩ := rows_all fpos
 rw [fsum] at r2
 have rpos : ∀ q ∈ rowsL (flatL P), 0 < q.2 := fun q hq => rowsL_pos hq
 have rle : ∀ q ∈ rowsL (flatL P), q.2 ≤ ((u * wideL P : Nat) : Int) := fun q hq => by
  rw [<- r2]
  exact sum_le (fun x hx => by
   obtain ⟨q, hq, rfl⟩ := List.mem_map.mp hx
   have := rpos q hq
   omega) q.2 (List.mem_map.mpr ⟨q, hq, rfl⟩)
 have flen := flat_len h.ok
 have few := h.few
 have rne : rowsL (flatL P) ≠ [] := fun z => by
  rw [z] at r2
  have : 0 < u * wideL P := Nat.mul_pos u0 w0
  simp only [List.map_nil, List.sum_nil] at r2
  omega
 have ok : BlOk P u := by
  refine ⟨fun p hp => ?_, by omega, fun p hp => ?_, by omega, by omega, by omega, rne, fun q hq => ?_⟩
  ·have hw := h.ok p hp
   have := Nat.le_of_dvd h.M0 hw.dv
   exact ⟨hw.d0, by omega⟩
  ·have a := sum_le (L := P.map (·.1)) (fun x hx => by
    obtain ⟨q, hq, rfl⟩ := List.mem_map.mp hx
    have := h.ps q hq
    omega) p.1 (List.mem_map.mpr ⟨p, hp, rfl⟩)
   rw [h.tt] at a
   have := h.ps p hp
   omega
  ·have := rle q hq
   omega
 refine ⟨ok, ?_⟩
 have bf : blendF P u = (u * wideL P / gcdL ((rowsL (flatL P)).map (·.2)), (rowsL (flatL P)).map fun q => (q.1, q.2 / ((gcdL ((rowsL (flatL P)).map (·.2)) : Nat) : Int))) := rfl
 have gp := ok.gpos
 have kall := keyU_all (flatL P)
 rw [bf]
 have keys : ∀ q ∈ rowsL (flatL P), 0 ≤ q.1 /\ q.1 < 24 := fun q hq => by
  have : q.1 ∈ PySem.W.sortI (keyU (flatL P)) := by rw [<- r1]; exact List.mem_map.mpr ⟨q, hq, rfl⟩
  obtain ⟨p, hp, e⟩ := (kall.2.2 _).mp ((PySem.W.sortI_perm _).mem_iff.mp this)
  rw [<- e]
  exact fkey p hp
 have rnd : ((rowsL (flatL P)).map (·.1)).Nodup := by rw [r1]; exact (PySem.W.sortI_perm _).nodup_iff.mpr kall.1
 have uw0 : 0 < u * wideL P := Nat.mul_pos u0 w0
 have dvM : u * wideL P ∣ u * M := Nat.mul_dvd_mul_left u wd
 generalize rowsL (flatL P) = R at *
 have dvd := gcd_dvd (R.map (·.2))
 generalize gcdL (R.map (·.2)) = g at gp dvd ⊢
 have back : ∀ q ∈ R, q.2 / (g : Int) * (g : Int) = q.2 := fun q hq => Int.ediv_mul_cancel (dvd q.2 (List.mem_map.mpr ⟨q, hq, rfl⟩))
 have e1 : R.map (·.2) = (R.map fun q => q.2 / (g : Int)).map fun x => x * (g : Int) := by
  rw [List.map_map]
  exact List.map_congr_left fun q hq => (back q hq).symm
 have hs : (R.map fun q => q.2 / (g : Int)).sum * (g : Int) = ((u * wideL P : Nat) : Int) := by rw [<- sum_scale, <- e1, r2]
 have hd : ((u * wideL P / g : Nat) : Int) = (R.map fun q => q.2 / (g : Int)).sum := by
  rw [Int.natCast_ediv, <- hs, Int.mul_ediv_cancel _ (by omega)]
 have gd : g ∣ u * wideL P := by
  have : (g : Int) ∣ ((u * wideL P : Nat) : Int) := ⟨_, by rw [Int.mul_comm]; exact hs.symm⟩
  exact Int.natCast_dvd_natCast.mp this
 have qp : ∀ q ∈ R, 0 < q.2 / (g : Int) := fun q hq => by
  have h2 := back q hq
  have h3 := rpos q hq
  refine Classical.byContradiction fun hc => ?_
  have : q.2 / (g : Int) * (g : Int) ≤ 0 := Int.mul_nonpos_of_nonpos_of_nonneg (by omega) (by omega)
  omega
 refine ⟨Nat.div_pos (Nat.le_of_dvd uw0 gd) gp.1, Nat.dvd_trans (Nat.div_dvd_of_dvd gd) dvM, ?_, ?_, fun q hq => ?_, fun q hq => ?_, ?_⟩
 ·simpa using rne
 ·show ((R.map fun q => (q.1, q.2 / (g : Int))).map (·.1)).Nodup
  rw [List.map_map]
  exact rnd
 ·obtain ⟨q', hq', rfl⟩ := List.mem_map.mp hq
  exact keys q' hq'
 ·obtain ⟨q', hq', rfl⟩ := List.mem_map.mp hq
  exact qp q' hq'
 ·show ((R.map fun q => (q.1, q.2 / (g : Int))).map (·.2)).sum = ((u * wideL P / g : Nat) : Int)
  rw [List.map_map, hd]
  rfl
def cshF (F : List Tri) (T : List IP) (Q : List Int) (v : Int) : List IP × Nat :=
 if kindS (decide (v ∈ Q)) (shpL F T v).length = "fast" then ([(1, v)], 1)
 else if kindS (decide (v ∈ Q)) (shpL F T v).length = "row" then ((6, v) :: (shpL F T v).map fun u => (1, u), 8)
 else if (nbL F v).length = 3 then ((7, v) :: (nbL F v).map fun u => (3, u), 16)
 else ((5 * ((nbL F v).length : Int), v) :: (nbL F v).map fun u => (3, u), 8 * (nbL F v).length)
theorem nb_deg {F : List Tri} (n : Nb8 (spokes F)) (nd : ((spokes F).map way).Nodup) (v : Int) : ((lnk v (spokes F)).map (·.1)).Nodup /\ (lnk v (spokes F)).length ≤ 8 /\ (nbL F v).length ≤ 8 := by
 obtain ⟨R, h1, h2⟩ := n v
 have fn := lnk_fst nd v
 refine ⟨fn, ?_, ?_⟩
 ·have := Cg.nodup_le fn (m := R) fun x hx => by
   obtain ⟨p, hp, rfl⟩ := List.mem_map.mp hx
   exact (h2 p hp).1
  rw [List.length_map] at this
  omega
 ·have := sortU_len (ns := (lnk v (spokes F)).map (·.1) ++ (lnk v (spokes F)).map (·.2)) (r := R) fun z hz => by
   rcases List.mem_append.mp hz with hz | hz
   ·obtain ⟨p, hp, rfl⟩ := List.mem_map.mp hz
    exact (h2 p hp).1
   ·obtain ⟨p, hp, rfl⟩ := List.mem_map.mp hz
    exact (h2 p hp).2
  unfold nbL
  omega
theorem corner_shares_wr {F : List Tri} (n : Nb8 (spokes F)) (nd : ((spokes F).map way).Nodup) {N : NC} {T : List IP} {Q : List Int} (hN : NestOk (spokes F) N) {v : Int} (hv : ∃ t ∈ spokes F, t.1 = v) : WR (m_corner_shares [.v (webD F N T Q), .v (.int v)]) fun s _ => s = .v (shaD (cshF F T Q v).1 (cshF F T Q v).2) := by
 obtain ⟨fn, d8, n8⟩ := nb_deg n nd v
 have sl : (shpL F T v).length ≤ 8 := Nat.le_trans (List.length_filter_le _ _) n8
 unfold m_corner_shares b_corner_shares cshF
 refine wr_fnM (ws_seq (ws_set1 ?_))
 refine wr_methV' rfl (pick_web (ml := [("Web", m_Web_sort_of)]) (x := "sort_of") (by decide) rfl) (wl_cons (wr_v rfl ⟨_, rfl, wl_nil ?_⟩))
 refine (sortd_wr fn d8 hN (.inl rfl) hv).mono fun s y hs => ?_
 obtain ⟨rfl, y', rfl⟩ := hs
 generalize kindS (decide (v ∈ Q)) (shpL F T v).length = k
 refine ⟨⟨_, rfl⟩, rfl, ?_⟩
 refine ws_seq (ws_if (wb_tst (wr_op (wr_v rfl ⟨_, rfl, wr_c ⟨_, rfl, _, eq_s, _, rfl, fun e => ?_, fun e => ws_skip ?_⟩⟩))))
 ·rw [if_pos (of_decide_eq_true e)]
  (refine ws_ret ?_; refine wr_tup ?_; refine wl_cons ?_; refine wr_lst ?_; refine wl_cons ?_; refine wr_tup ?_; refine wl_cons ?_; refine wr_c ?_; refine ⟨_, dat_v, ?_⟩; refine wl_cons ?_; refine wr_v rfl ?_; refine ⟨_, dat_v, ?_⟩; refine wl_nil ?_; refine ⟨_, dat_v, ?_⟩; refine wl_nil ?_; refine ⟨_, dat_o, ?_⟩; refine wl_cons ?_; refine wr_c ?_; refine ⟨_, dat_v, ?_⟩; refine wl_nil ?_)
  rfl
 rw [if_neg (of_decide_eq_false e)]
 refine ws_seq (ws_if (wb_tst (wr_op (wr_v rfl ⟨_, rfl, wr_c ⟨_, rfl, _, eq_s, _, rfl, fun e => ?_, fun e => ws_skip ?_⟩⟩))))
 ·rw [if_pos (of_decide_eq_true e)]
  (refine ws_ret ?_; refine wr_tup ?_; refine wl_cons ?_; refine wr_op ?_; refine wr_lst ?_; refine wl_cons ?_; refine wr_tup ?_; refine wl_cons ?_; refine wr_c ?_; refine ⟨_, dat_v, ?_⟩; refine wl_cons ?_; refine wr_v rfl ?_; refine ⟨_, dat_v, ?_⟩; refine wl_nil ?_; refine ⟨_, dat_v, ?_⟩; refine wl_nil ?_; refine ⟨_, dat_o, ?_⟩)
  refine wr_lcA (wi_lst ?_)
  refine wr_methV' rfl (pick_web (ml := [("Web", m_Web_edged)]) (x := "edged") (by decide) rfl) (wl_cons (wr_v rfl ⟨_, rfl, wl_nil ?_⟩))
  refine (edgedd_wr fn d8 hN (.inl rfl) hv).mono fun s y hs => ?_
  obtain ⟨rfl, y', rfl⟩ := hs
  refine ⟨⟨_, rfl⟩, _, rfl, _, rfl, rfl, by rw [List.length_map]; omega, (fun d => .tup [.int 1, d]), fun d hd => ?_, ?_⟩
  ·obtain ⟨c, _, rfl⟩ := List.mem_map.mp hd
   exact ⟨_, rfl, wr_tup (wl_cons (wr_c ⟨_, rfl, wl_cons (wr_v rfl ⟨_, rfl, wl_nil ⟨_, rfl, rfl, rfl⟩⟩)⟩))⟩
  (refine ⟨_, dat_o, ?_⟩)
  refine ⟨_, gAdd_l (by simp only [List.length_map, List.length_cons, List.length_nil]; omega), _, rfl, ?_⟩
  (refine wl_cons ?_; refine wr_c ?_; refine ⟨_, dat_v, ?_⟩; refine wl_nil ?_)
  rw [List.map_map]
  show Mp.Slot.v _ = Mp.Slot.v _
  unfold shaD
  rw [List.map_cons, List.map_map]
  rfl
 rw [if_neg (of_decide_eq_false e)]
 refine ws_seq (ws_set1 ?_)
 refine wr_methV' rfl (pick_web (ml := [("Web", m_Web_neighbours)]) (x := "neighbours") (by decide) rfl) (wl_cons (wr_v rfl ⟨_, rfl, wl_nil ?_⟩))
 refine (nbrd_wr fn d8 hN (.inl rfl) hv).mono fun s y hs => ?_
 obtain ⟨rfl, y', rfl⟩ := hs
 refine ⟨⟨_, rfl⟩, rfl, ?_⟩
 refine ws_seq (ws_if (wb_tst (wr_op (wr_callV rfl ⟨_, gLen_l, _, rfl, wr_c ⟨_, rfl, _, gEq_ii, _, rfl, fun e => ?_, fun e => ws_skip ?_⟩⟩))))
 ·have e := of_decide_eq_true e
  rw [List.length_map] at e
  rw [if_pos (by omega)]
  (refine ws_ret ?_; refine wr_tup ?_; refine wl_cons ?_; refine wr_op ?_; refine wr_lst ?_; refine wl_cons ?_; refine wr_tup ?_; refine wl_cons ?_; refine wr_c ?_; refine ⟨_, dat_v, ?_⟩; refine wl_cons ?_; refine wr_v rfl ?_; refine ⟨_, dat_v, ?_⟩; refine wl_nil ?_; refine ⟨_, dat_v, ?_⟩; refine wl_nil ?_; refine ⟨_, dat_o, ?_⟩)
  refine wr_lcA (wi_lst (wr_o rfl ?_))
  refine ⟨_, rfl, _, rfl, rfl, by rw [List.length_map]; omega, (fun d => .tup [.int 3, d]), fun d hd => ?_, ?_⟩
  ·obtain ⟨c, _, rfl⟩ := List.mem_map.mp hd
   exact ⟨_, rfl, wr_tup (wl_cons (wr_c ⟨_, rfl, wl_cons (wr_v rfl ⟨_, rfl, wl_nil ⟨_, rfl, rfl, rfl⟩⟩)⟩))⟩
  refine ⟨_, rfl, _, gAdd_l (by simp only [List.length_map, List.length_cons, List.length_nil]; omega), _, rfl, ?_⟩
  (refine wl_cons ?_; refine wr_c ?_; refine ⟨_, dat_v, ?_⟩; refine wl_nil ?_)
  rw [List.map_map]
  show Mp.Slot.v _ = Mp.Slot.v _
  unfold shaD
  rw [List.map_cons, List.map_map]
  rfl
 ·have e := of_decide_eq_false e
  rw [List.length_map] at e
  rw [if_neg (by omega)]
  (refine ws_ret ?_; refine wr_tup ?_; refine wl_cons ?_; refine wr_op ?_; refine wr_lst ?_; refine wl_cons ?_; refine wr_tup ?_; refine wl_cons ?_; refine wr_op ?_; refine wr_c ?_; refine ⟨_, dat_v, ?_⟩; refine wr_callV rfl ?_; refine ⟨_, gLen_l, ?_⟩; refine ⟨_, dat_v, ?_⟩)
  refine ⟨_, gMul_l (by decide) (by decide), _, rfl, ?_⟩
  (refine wl_cons ?_; refine wr_v rfl ?_; refine ⟨_, dat_v, ?_⟩; refine wl_nil ?_; refine ⟨_, dat_v, ?_⟩; refine wl_nil ?_; refine ⟨_, dat_o, ?_⟩)
  refine wr_lcA (wi_lst (wr_o rfl ?_))
  refine ⟨_, rfl, _, rfl, rfl, by rw [List.length_map]; omega, (fun d => .tup [.int 3, d]), fun d hd => ?_, ?_⟩
  ·obtain ⟨c, _, rfl⟩ := List.mem_map.mp hd
   exact ⟨_, rfl, wr_tup (wl_cons (wr_c ⟨_, rfl, wl_cons (wr_v rfl ⟨_, rfl, wl_nil ⟨_, rfl, rfl, rfl⟩⟩)⟩))⟩
  refine ⟨_, rfl, _, gAdd_l (by simp only [List.length_map, List.length_cons, List.length_nil]; omega), _, rfl, ?_⟩
  (refine wl_cons ?_; refine wr_op ?_; refine wr_c ?_; refine ⟨_, dat_v, ?_⟩; refine wr_callV rfl ?_; refine ⟨_, gLen_l, ?_⟩; refine ⟨_, dat_v, ?_⟩)
  refine ⟨_, gMul_l (by decide) (by decide), _, rfl, ?_⟩
  (refine wl_nil ?_)
  rw [List.map_map, List.length_map]
  show Mp.Slot.v _ = Mp.Slot.v _
  unfold shaD
  rw [List.map_cons, List.map_map, Int.natCast_mul]
  rfl
def sshF (F : List Tri) (T : List IP) (th : IP -> Int) (p : IP) : List IP × Nat := if shpP F T p = true then ([(1, p.1), (1, p.2)], 2) else ([(3, p.1), (3, p.2), (1, th p), (1, th (p.2, p.1))], 8)
theorem side_shares_wr {F : List Tri} (nd : ((spokes F).map way).Nodup) {N : NC} {T : List IP} {Q : List Int} {p : IP} {th : IP -> Int} (hth : ∀ w, w ∈ (spokes F).map way -> (w.1, w.2, th w) ∈ spokes F) : WR (m_side_shares [.v (webD F N T Q), .v (pD p)]) fun s _ => s = .v (shaD (sshF F T th p).1 (sshF F T th p).2) := by
 unfold m_side_shares b_side_shares sshF
 refine wr_fnM (ws_seq (ws_asg (wr_v rfl ⟨_, rfl, _, rfl, ?_⟩)))
 refine ws_seq (ws_if (wb_tst ?_))
 refine wr_methV' rfl (pick_web (ml := [("Web", m_Web_is_sharp)]) (x := "is_sharp") (by decide) rfl) (wl_cons (wr_v rfl ⟨_, rfl, wl_nil ?_⟩))
 refine (sharp_wr (.inl rfl) _).mono fun s y hs => ?_
 obtain ⟨rfl, y', rfl⟩ := hs
 refine ⟨⟨_, rfl⟩, _, rfl, fun e => ?_, fun e => ws_skip ?_⟩
 ·rw [if_pos e]
  (refine ws_ret ?_; refine wr_tup ?_; refine wl_cons ?_; refine wr_lst ?_; refine wl_cons ?_; refine wr_tup ?_; refine wl_cons ?_; refine wr_c ?_; refine ⟨_, dat_v, ?_⟩; refine wl_cons ?_; refine wr_v rfl ?_; refine ⟨_, dat_v, ?_⟩; refine wl_nil ?_; refine ⟨_, dat_v, ?_⟩; refine wl_cons ?_; refine wr_tup ?_; refine wl_cons ?_; refine wr_c ?_; refine ⟨_, dat_v, ?_⟩; refine wl_cons ?_; refine wr_v rfl ?_; refine ⟨_, dat_v, ?_⟩; refine wl_nil ?_; refine ⟨_, dat_v, ?_⟩; refine wl_nil ?_; refine ⟨_, dat_o, ?_⟩; refine wl_cons ?_; refine wr_c ?_; refine ⟨_, dat_v, ?_⟩; refine wl_nil ?_)
  rfl
 ·rw [if_neg (by rw [e]; simp)]
  have hi : InnerW (spokes F) p := by
   unfold shpP at e
   simp only [Bool.or_eq_false_iff, Bool.not_eq_false', decide_eq_false_iff_not, decide_eq_true_eq] at e
   exact e.2
  have w1 : gIx (waysD (spokes F)) (.tup [.int p.1, .int p.2]) = some (.int (th p)) := ways_at nd (hth p hi.1)
  have w2 : gIx (waysD (spokes F)) (.tup [.int p.2, .int p.1]) = some (.int (th (p.2, p.1))) := ways_at nd (hth (p.2, p.1) hi.2)
  (refine ws_ret ?_; refine wr_tup ?_; refine wl_cons ?_; refine wr_lst ?_; refine wl_cons ?_; refine wr_tup ?_; refine wl_cons ?_; refine wr_c ?_; refine ⟨_, dat_v, ?_⟩; refine wl_cons ?_; refine wr_v rfl ?_; refine ⟨_, dat_v, ?_⟩; refine wl_nil ?_; refine ⟨_, dat_v, ?_⟩; refine wl_cons ?_; refine wr_tup ?_; refine wl_cons ?_; refine wr_c ?_; refine ⟨_, dat_v, ?_⟩; refine wl_cons ?_; refine wr_v rfl ?_; refine ⟨_, dat_v, ?_⟩; refine wl_nil ?_; refine ⟨_, dat_v, ?_⟩; refine wl_cons ?_; refine wr_tup ?_; refine wl_cons ?_; refine wr_c ?_; refine ⟨_, dat_v, ?_⟩; refine wl_cons ?_; refine wr_ix ?_)
  refine wr_fldV rfl web_third ⟨_, rfl, ?_⟩
  (refine wr_tup ?_; refine wl_cons ?_; refine wr_v rfl ?_; refine ⟨_, dat_v, ?_⟩; refine wl_cons ?_; refine wr_v rfl ?_; refine ⟨_, dat_v, ?_⟩; refine wl_nil ?_; refine ⟨_, dat_v, ?_⟩)
  refine ⟨_, w1, _, rfl, ?_⟩
  (refine wl_nil ?_; refine ⟨_, dat_v, ?_⟩; refine wl_cons ?_; refine wr_tup ?_; refine wl_cons ?_; refine wr_c ?_; refine ⟨_, dat_v, ?_⟩; refine wl_cons ?_; refine wr_ix ?_)
  refine wr_fldV rfl web_third ⟨_, rfl, ?_⟩
  (refine wr_tup ?_; refine wl_cons ?_; refine wr_v rfl ?_; refine ⟨_, dat_v, ?_⟩; refine wl_cons ?_; refine wr_v rfl ?_; refine ⟨_, dat_v, ?_⟩; refine wl_nil ?_; refine ⟨_, dat_v, ?_⟩)
  refine ⟨_, w2, _, rfl, ?_⟩
  (refine wl_nil ?_; refine ⟨_, dat_v, ?_⟩; refine wl_nil ?_; refine ⟨_, dat_o, ?_⟩; refine wl_cons ?_; refine wr_c ?_; refine ⟨_, dat_v, ?_⟩; refine wl_nil ?_)
  rfl
structure WPt (F : List Tri) (B : Int) : Prop where
 wb : WB (spokes F)
 nb : Nb8 (spokes F)
 fl : F.length ≤ 75
 rng : ∀ t ∈ spokes F, 0 ≤ t.1 /\ t.1 < B
 ne : F ≠ []
theorem WPt.prt {F : List Tri} {B : Int} (h : WPt F B) (hB : B ≤ 1000000) : Prt F := ⟨h.wb.nd, by have := h.fl; omega, fun t ht => by have := h.rng t ht; omega⟩
theorem allL_900 {F : List Tri} (hl : F.length ≤ 300) : (allL F).length ≤ 900 := by
 have := Cg.nodup_le (allL_nd F) (m := (spokes F).map fun t => pr t.1 t.2.1) fun p hp => by
  obtain ⟨t, ht, rfl⟩ := allL_mem.mp hp
  exact List.mem_map.mpr ⟨t, ht, rfl⟩
 rw [List.length_map, spokes_len] at this
 omega
theorem fst1_le {S : List Tri} {N : NC} (hN : NestOk S N) {B : Int} (h : ∀ t ∈ S, t.1 < B) (ne : S ≠ []) : fst1 N ≤ B := by
 obtain ⟨_, _, k3⟩ := hN.ck
 obtain ⟨t0, h0⟩ := List.exists_mem_of_ne_nil _ ne
 have hk := (k3 t0.1).mpr ⟨t0, h0, rfl⟩
 obtain ⟨m, hm⟩ := maxI_some (ns := ckeys N) (fun z => by rw [z] at hk; cases hk)
 unfold fst1
 rw [hm]
 obtain ⟨t, ht, e2⟩ := (k3 m).mp (maxI_ok hm).1
 have := h t ht
 show m + 1 ≤ B
 omega
theorem spokes_ne {F : List Tri} (h : F ≠ []) : spokes F ≠ [] := by
 obtain ⟨t, F', rfl⟩ := List.exists_cons_of_ne_nil h
 rw [spokes_cons]
 simp [spk]
theorem num_rng {F : List Tri} (hl : F.length ≤ 300) {N : NC} {p : IP} (hp : p ∈ allL F) : fst1 N ≤ numOf F N p /\ numOf F N p < fst1 N + 900 := by
 have := List.idxOf_lt_length_of_mem hp
 have := allL_900 hl
 unfold numOf
 omega
theorem WPt.cut {F : List Tri} {B : Int} (h : WPt F B) (hB : B ≤ 900000) {N : NC} (hN : NestOk (spokes F) N) : Prt (cutF (midF F N) F) /\ (∀ t ∈ spokes (cutF (midF F N) F), 0 ≤ t.1 /\ t.1 < B + 900) /\ WB (spokes (cutF (midF F N) F)) /\ Nb8 (spokes (cutF (midF F N) F)) /\ cutF (midF F N) F ≠ [] := by
 have m := num_mid hN
 have wb := cutF_wb h.wb m
 have len := cutF_len (midF F N) F
 have fl := h.fl
 have pm := cut_spokes (midF F N) F
 have rg : ∀ t ∈ spokes (cutF (midF F N) F), 0 ≤ t.1 /\ t.1 < B + 900 := fun t ht => by
  have f0 := fst1_le hN (B := B) (fun t ht => (h.rng t ht).2) (spokes_ne h.ne)
  have fp : 0 < fst1 N := by
   obtain ⟨t0, h0⟩ := List.exists_mem_of_ne_nil _ (spokes_ne h.ne)
   have := fst1_gt hN h0
   have := h.rng t0 h0
   omega
  have new : ∀ {a b c : Int}, (a, b, c) ∈ spokes F -> 0 ≤ midF F N a b /\ midF F N a b < B + 900 := fun {a b c} hs => by
   have r := num_rng (F := F) (by omega) (N := N) (p := pr a b) (pr_all hs)
   show 0 ≤ numOf F N (pr a b) /\ numOf F N (pr a b) < B + 900
   omega
  have ct := mem_cut.mp (pm.mem_iff.mp ht)
  cases ct with
  | a a b c hs => have := h.rng _ hs; exact ⟨this.1, by have := this.2; show a < B + 900; omega⟩
  | b a b c hs => exact new hs
  | c a b c hs => exact new (h.wb.r2 hs)
  | d a b c hs => exact new hs
 refine ⟨⟨wb.nd, by omega, fun t ht => by have := rg t ht; omega⟩, rg, wb, (cut_nb8 h.wb m h.nb).sub fun t ht => pm.mem_iff.mp ht, fun z => ?_⟩
 ·rw [z] at len
  have : F.length = 0 := by simp at len; omega
  exact h.ne (List.eq_nil_of_length_eq_zero this)
theorem WtB.up {M M' : Nat} {w : Wt0} (h : WtB M w) (d : M ∣ M') : WtB M' w := ⟨h.d0, Nat.dvd_trans h.dv d, h.ne, h.nd, h.rg, h.ps, h.tt⟩
def IsC (F : List Tri) (c : Int) : Prop := ∃ t ∈ spokes F, t.1 = c
theorem nb_isc {F : List Tri} {v c : Int} (h : c ∈ nbL F v) : IsC F c := by
 obtain ⟨d, e | e⟩ := nbL_mem.mp h
 ·exact ⟨_, spokes_rot _ e, rfl⟩
 ·exact ⟨_, spokes_rot _ (spokes_rot _ e), rfl⟩
theorem sum_const (L : List Int) (k : Int) : ((L.map fun u => (k, u)).map (·.1)).sum = k * (L.length : Nat) := by
 induction L with
 | nil => simp
 | cons x L ih =>
  rw [List.map_cons, List.map_cons, List.sum_cons, ih, List.length_cons]
  push_cast
  rw [Int.mul_add, Int.mul_one, Int.add_comm]
theorem csh_ptbY {F : List Tri} (wb : WB (spokes F)) (nb : Nb8 (spokes F)) {T : List IP} {Q : List Int} {v : Int} (hv : IsC F v) {w : Int -> Wt0} {M : Nat} (hw : ∀ c, IsC F c -> WtB M (w c)) (M0 : 0 < M) (hM : 64 * M < 2 ^ 62) :
    PtB ((cshF F T Q v).1.map fun p => (p.1, w p.2)) (cshF F T Q v).2 M /\ (cshF F T Q v).2 ∣ 6720 /\ ∀ p ∈ (cshF F T Q v).1, IsC F p.2 := by
  obtain ⟨fn, d8, n8⟩ := nb_deg nb wb.nd v
  have sub : ∀ c ∈ shpL F T v, c ∈ nbL F v := fun c hc => (List.mem_filter.mp hc).1
  have n1 : 1 ≤ (nbL F v).length := by
    obtain ⟨⟨a, b, c⟩, ht, rfl⟩ := hv
    have : b ∈ nbL F a := nbL_mem.mpr ⟨c, .inl ht⟩
    exact List.length_pos_of_mem this
  have mk : ∀ (k : Int) (j : Int) (L : List Int) (u : Nat), 0 < k -> 0 < j -> L.length ≤ 8 -> (∀ c ∈ L, IsC F c) -> k + j * (L.length : Nat) = (u : Nat) -> u ≤ 64 -> u ∣ 6720 ->
      PtB (((k, v) :: L.map fun u => (j, u)).map fun p => (p.1, w p.2)) u M /\ u ∣ 6720 /\ ∀ p ∈ (k, v) :: L.map fun u => (j, u), IsC F p.2 := by
    intro k j L u k0 j0 l8 hL hs hu hd
    have all : ∀ p ∈ (k, v) :: L.map fun u => (j, u), 0 < p.1 /\ IsC F p.2 := fun p hp => by
      rcases List.mem_cons.mp hp with rfl | hp
      · exact ⟨k0, hv⟩
      · obtain ⟨c, hc, rfl⟩ := List.mem_map.mp hp
        exact ⟨j0, hL c hc⟩
    refine ⟨⟨by simp, ?_, fun p hp => ?_, ?_, fun p hp => ?_, M0, ?_⟩, hd, fun p hp => (all p hp).2⟩
    · simp only [List.length_map, List.length_cons]
      omega
    · obtain ⟨q, hq, rfl⟩ := List.mem_map.mp hp
      exact (all q hq).1
    · rw [List.map_map]
      show (((k, v) :: L.map fun u => (j, u)).map (·.1)).sum = _
      rw [List.map_cons, List.sum_cons, sum_const]
      exact hs
    · obtain ⟨q, hq, rfl⟩ := List.mem_map.mp hp
      exact hw _ (all q hq).2
    · exact ⟨by omega, by omega⟩
  unfold cshF
  split
  · have := mk 1 1 [] 1 (by decide) (by decide) (by simp) (by simp) (by simp) (by decide) (by decide)
    simpa using this
  · split
    · rename_i e
      have l2 : (shpL F T v).length = 2 := by
        unfold kindS at e
        split at e
        · exact absurd e (by decide)
        · rename_i e1
          split at e
          · exact absurd e (by decide)
          · split at e
            · exact absurd e (by decide)
            · omega
      exact mk 6 1 (shpL F T v) 8 (by decide) (by decide) (by omega) (fun c hc => nb_isc (sub c hc)) (by rw [l2]; rfl) (by decide) (by decide)
    · split
      · rename_i e
        exact mk 7 3 (nbL F v) 16 (by decide) (by decide) (by omega) (fun c hc => nb_isc hc) (by rw [e]; rfl) (by decide) (by decide)
      · have l8 : 8 * (nbL F v).length ∣ 6720 := by
          have : (nbL F v).length = 1 \/ (nbL F v).length = 2 \/ (nbL F v).length = 3 \/ (nbL F v).length = 4 \/ (nbL F v).length = 5 \/ (nbL F v).length = 6 \/ (nbL F v).length = 7 \/ (nbL F v).length = 8 := by omega
          rcases this with e | e | e | e | e | e | e | e <;> rw [e] <;> decide
        exact mk (5 * ((nbL F v).length : Int)) 3 (nbL F v) (8 * (nbL F v).length) (by omega) (by decide) n8 (fun c hc => nb_isc hc) (by push_cast; omega) (by omega) l8
theorem csh_ptb {F : List Tri} {B : Int} (h : WPt F B) {T : List IP} {Q : List Int} {v : Int} (hv : IsC F v) {w : Int -> Wt0} {M : Nat} (hw : ∀ c, IsC F c -> WtB M (w c)) (M0 : 0 < M) (hM : 64 * M < 2 ^ 62) :
    PtB ((cshF F T Q v).1.map fun p => (p.1, w p.2)) (cshF F T Q v).2 M /\ (cshF F T Q v).2 ∣ 6720 /\ ∀ p ∈ (cshF F T Q v).1, IsC F p.2 := csh_ptbY h.wb h.nb hv hw M0 hM
theorem ssh_ptb {F : List Tri} {T : List IP} {p : IP} (hp : p ∈ allL F) {th : IP -> Int} (hth : ∀ w, w ∈ (spokes F).map way -> (w.1, w.2, th w) ∈ spokes F) {w : Int -> Wt0} {M : Nat} (hw : ∀ c, IsC F c -> WtB M (w c)) (M0 : 0 < M) (hM : 64 * M < 2 ^ 62) :
    PtB ((sshF F T th p).1.map fun p => (p.1, w p.2)) (sshF F T th p).2 M /\ (sshF F T th p).2 ∣ 6720 /\ ∀ q ∈ (sshF F T th p).1, IsC F q.2 := by
  have hc : IsC F p.1 /\ IsC F p.2 := by
    obtain ⟨t, ht, rfl⟩ := allL_mem.mp hp
    have a : IsC F t.1 := ⟨t, ht, rfl⟩
    have b : IsC F t.2.1 := ⟨_, spokes_rot _ ht, rfl⟩
    rcases pr_or t.1 t.2.1 with e | e <;> rw [e]
    · exact ⟨a, b⟩
    · exact ⟨b, a⟩
  unfold sshF
  split
  · refine ⟨⟨by simp, by simp, ?_, rfl, ?_, M0, by omega⟩, by show (2 : Nat) ∣ 6720; decide, ?_⟩
    · simp
    · simp [hw _ hc.1, hw _ hc.2]
    · simp [hc.1, hc.2]
  · rename_i e
    have hi : InnerW (spokes F) p := by
      unfold shpP at e
      simp only [Bool.or_eq_true, not_or, Bool.not_eq_true, Bool.not_eq_true', decide_eq_false_iff_not, Bool.not_eq_false', decide_eq_true_eq, Bool.not_eq_false] at e
      exact Classical.not_not.mp fun z => by simp [z] at e
    have t1 : IsC F (th p) := ⟨_, spokes_rot _ (spokes_rot _ (hth p hi.1)), rfl⟩
    have t2 : IsC F (th (p.2, p.1)) := ⟨_, spokes_rot _ (spokes_rot _ (hth (p.2, p.1) hi.2)), rfl⟩
    refine ⟨⟨by simp, by simp, ?_, rfl, ?_, M0, by omega⟩, by show (8 : Nat) ∣ 6720; decide, ?_⟩
    · simp
    · simp [hw _ hc.1, hw _ hc.2, hw _ t1, hw _ t2]
    · simp [hc.1, hc.2, t1, t2]
def rowD (ks : List Int) (w : Int -> Wt0) : D := .dK (ks.map .inl) (ks.map fun k => wtD (w k))
theorem row_ix {ks : List Int} {w : Int -> Wt0} {c : Int} (h : c ∈ ks) : gIx (rowD ks w) (.int c) = some (wtD (w c)) := by
 show valD (ks.map (Sum.inl : Int -> Key)) (ks.map fun k => wtD (w k)) (.inl c) = _
 induction ks with
 | nil => cases h
 | cons k ks ih =>
  rw [List.map_cons, List.map_cons]
  show (if (Sum.inl k : Key) = .inl c then some (wtD (w k)) else valD (ks.map (Sum.inl : Int -> Key)) (ks.map fun k => wtD (w k)) (.inl c)) = _
  by_cases e : k = c
  ·rw [if_pos (by rw [e]), e]
  ·rw [if_neg fun z => e (Sum.inl.inj z)]
   exact ih ((List.mem_cons.mp h).resolve_left fun z => e z.symm)
theorem row_put {ks : List Int} {w : Int -> Wt0} {c : Int} (h : c ∉ ks) (hl : ks.length < 900000) : putD (rowD ks w) (.int c) (wtD (w c)) = some (rowD (ks ++ [c]) w) := by
 have e : hasK (Sum.inl c : Key) (ks.map .inl) = false := hasK_no fun z => h (inl_mem.mp z)
 unfold rowD
 show (if (ks.map (Sum.inl : Int -> Key)).length < 900000 then some (D.dK (putKs (Sum.inl c) (ks.map .inl)) (putVs (Sum.inl c) (wtD (w c)) (ks.map .inl) (ks.map fun k => wtD (w k)))) else none) = _
 rw [if_pos (by simpa using hl)]
 unfold putKs putVs
 rw [e, if_neg Bool.false_ne_true, if_neg Bool.false_ne_true, List.map_append, List.map_append]
 rfl
structure RwOk (F : List Tri) (M : Nat) (Rw : D) (w : Int -> Wt0) : Prop where
 ix : ∀ c, IsC F c -> gIx Rw (.int c) = some (wtD (w c))
 ok : ∀ c, IsC F c -> WtB M (w c)
theorem isc_key {F : List Tri} {N : NC} (hN : NestOk (spokes F) N) {c : Int} : c ∈ ckeys N ↔ IsC F c := hN.ck.2.2 c
theorem third_ex (S : List Tri) : ∃ th : IP -> Int, ∀ w, w ∈ S.map way -> (w.1, w.2, th w) ∈ S := by
 classical
 refine ⟨fun w => if h : ∃ c, (w.1, w.2, c) ∈ S then Classical.choose h else 0, fun w hw => ?_⟩
 have h : ∃ c, (w.1, w.2, c) ∈ S := by
  obtain ⟨⟨a, b, c⟩, ht, rfl⟩ := List.mem_map.mp hw
  exact ⟨c, ht⟩
 show (w.1, w.2, if h : ∃ c, (w.1, w.2, c) ∈ S then Classical.choose h else 0) ∈ S
 rw [dif_pos h]
 exact Classical.choose_spec h
def wNew (F : List Tri) (N : NC) (T : List IP) (Q : List Int) (th : IP -> Int) (w : Int -> Wt0) (k : Int) : Wt0 :=
 if k < fst1 N then blendF ((cshF F T Q k).1.map fun p => (p.1, w p.2)) (cshF F T Q k).2
 else blendF ((sshF F T th ((allL F).getD (k - fst1 N).toNat (0, 0))).1.map fun p => (p.1, w p.2)) (sshF F T th ((allL F).getD (k - fst1 N).toNat (0, 0))).2
theorem wNew_old {F : List Tri} {N : NC} {T : List IP} {Q : List Int} {th : IP -> Int} {w : Int -> Wt0} {k : Int} (hN : NestOk (spokes F) N) (h : IsC F k) : wNew F N T Q th w k = blendF ((cshF F T Q k).1.map fun p => (p.1, w p.2)) (cshF F T Q k).2 := by
 unfold wNew
 obtain ⟨t, ht, rfl⟩ := h
 rw [if_pos (fst1_gt hN ht)]
theorem wNew_new {F : List Tri} {N : NC} {T : List IP} {Q : List Int} {th : IP -> Int} {w : Int -> Wt0} {p : IP} (h : p ∈ allL F) : wNew F N T Q th w (numOf F N p) = blendF ((sshF F T th p).1.map fun p => (p.1, w p.2)) (sshF F T th p).2 := by
 have e : (allL F).getD (numOf F N p - fst1 N).toNat (0, 0) = p := by
  have : (numOf F N p - fst1 N).toNat = (allL F).idxOf p := by unfold numOf; omega
  rw [this, List.getD_eq_getElem?_getD, List.getElem?_eq_getElem (List.idxOf_lt_length_of_mem h), Option.getD_some, List.getElem_idxOf]
 unfold wNew
 rw [if_neg (by unfold numOf; omega), e]
theorem addU_le (T : List IP) (p : IP) : (addU T p).length ≤ T.length + 1 := by
 unfold addU
 split
 ·omega
 ·simp
def nKeys (F : List Tri) (N : NC) : List Int := PySem.W.sortI (ckeys N) ++ (allL F).map (numOf F N)
theorem cut_web_wrX {F : List Tri} {B : Int} (h : WPt F B) (hB : B ≤ 900000) {N : NC} (hN : NestOk (spokes F) N) {T : List IP} (hT : ∀ p ∈ T, p ∈ allL F) (tl : T.length ≤ 900) {Q : List Int} {Rw : D} {w : Int -> Wt0} {M : Nat} {th : IP -> Int} (hth : ∀ w, w ∈ (spokes F).map way -> (w.1, w.2, th w) ∈ spokes F) (R : RwOk F M Rw w) (M0 : 0 < M) (hM : 64 * M < 2 ^ 62) :
    WR (m_cut_web [.v (webD F N T Q), .v Rw]) fun s _ => ∃ (N' : NC) (T2 : List IP), NestOk (spokes (cutF (midF F N) F)) N' /\ (∀ p, p ∈ T2 ↔ ∃ q ∈ T, p = (q.1, numOf F N q) \/ p = (q.2, numOf F N q)) /\ RwOk (cutF (midF F N) F) (6720 * M) (rowD (nKeys F N) (wNew F N T Q th w)) (wNew F N T Q th w) /\ s = .v (.tup [webD (cutF (midF F N) F) N' ((allL (cutF (midF F N) F)).filter fun p => decide (p ∈ T2 /\ InnerW (spokes (cutF (midF F N) F)) p)) ((ckeys N').filter fun v => decide (v ∈ Q)), rowD (nKeys F N) (wNew F N T Q th w)]) := by
  obtain ⟨k1, k2, k3⟩ := hN.ck
  obtain ⟨prt', rg', wb', nb', ne'⟩ := h.cut hB hN
  have fl := h.fl
  have al := allL_900 (F := F) (by omega)
  have clen : (ckeys N).length ≤ 900 := by
    have := Cg.nodup_le k2 (m := (spokes F).map (·.1)) fun v hv => by
      obtain ⟨t, ht, e⟩ := (k3 v).mp hv
      exact List.mem_map.mpr ⟨t, ht, e⟩
    rw [List.length_map, spokes_len] at this
    omega
  have pkm := PySem.W.sortI_perm (ckeys N)
  obtain ⟨w', hw'⟩ : ∃ w', w' = wNew F N T Q th w := ⟨_, rfl⟩
  obtain ⟨ks, hks⟩ : ∃ ks, ks = PySem.W.sortI (ckeys N) := ⟨_, rfl⟩
  rw [<- hks] at pkm
  have knd : ks.Nodup := pkm.nodup_iff.mpr k2
  have klen : ks.length ≤ 900 := by rw [pkm.length_eq]; exact clen
  have kold : ∀ c, c ∈ ks ↔ IsC F c := fun c => pkm.mem_iff.trans (isc_key hN)
  unfold m_cut_web b_cut_web
  refine wr_fnM (ws_seq (ws_set1 (wr_fn' (wl_cons (wr_v rfl ⟨_, rfl, wl_nil ?_⟩)))))
  refine (numbered_wr (h.prt (by omega)) hN h.ne).mono fun s y hs => ?_
  subst hs
  refine ⟨⟨_, rfl⟩, rfl, ?_⟩
  let st : Mp.Slot -> Mp.Slot -> Mp.Slot -> Mp.Slot -> Mp.Slot -> ME := fun x3 x4 x5 x6 x7 => [.v (webD F N T Q), .v Rw, .own (numD (allL F) (numOf F N)), x3, x4, x5, x6, x7, .no]
  refine ws_norm (ρ' := st .no .no .no .no .no) rfl ?_
  refine ws_seq (ws_set1 (wr_dcI (wi_lst (wr_call1 (wr_call1 (wr_fldV rfl web_after ⟨_, rfl, _, aft_list hN, _, rfl, _, gSorted_ints _, _, rfl, _, rfl, ?_⟩))))))
  rw [<- hks]
  refine ⟨rfl, fun j acc ρ => acc = rowD (ks.take j) w' /\ ρ = st .no .no .no .no .no, ⟨rfl, rfl⟩, ?_, ?_⟩
  · rintro j hj acc ρ ⟨rfl, rfl⟩
    have hj' : j < ks.length := by simpa using hj
    rw [List.getElem_map]
    have hc : IsC F ks[j] := (kold _).mp (List.getElem_mem hj')
    have fresh : ks[j] ∉ ks.take j := fun z => by
      have := knd.sublist (List.take_sublist (j + 1) ks)
      rw [List.take_succ_eq_append_getElem hj', List.nodup_append] at this
      exact this.2.2 _ z _ (by simp) rfl
    have tk : ks.take (j + 1) = ks.take j ++ [ks[j]] := List.take_succ_eq_append_getElem hj'
    generalize ks[j] = c at hc fresh tk ⊢
    obtain ⟨pb, pd, pc⟩ := csh_ptb h (T := T) (Q := Q) hc R.ok M0 hM
    refine ⟨_, rfl, ?_⟩
    (refine wb_yes ?_)
    refine ⟨fun _ => ?_, fun z => (by cases z)⟩
    refine wr_v rfl ⟨_, rfl, wr_fn' (wl_cons (wr_fn' (wl_cons (wr_v rfl ⟨_, rfl, wl_cons (wr_v rfl ⟨_, rfl, wl_nil ?_⟩)⟩))))⟩
    refine (corner_shares_wr h.nb h.wb.nd hN hc).mono fun s y hs => ?_
    subst hs
    refine ⟨⟨_, rfl⟩, _, rfl, wl_cons (wr_v rfl ⟨_, rfl, wl_nil ?_⟩)⟩
    refine (made_wr (w := w) (fun p hp => R.ix _ (pc p hp)) (ptb_ok pb).1).mono fun s y hs => ?_
    subst hs
    refine ⟨⟨_, rfl⟩, _, rfl, rowD (ks.take (j + 1)) w', ?_, rfl, rfl⟩
    rw [tk, <- wNew_old (th := th) hN hc, <- hw']
    exact row_put fresh (by rw [List.length_take]; omega)
  rintro acc ρ2 ⟨rfl, rfl⟩
  rw [List.length_map, List.take_length]
  refine ⟨rfl, ?_⟩
  refine ws_norm (ρ' := st (.own (rowD ks w')) .no .no .no .no) rfl ?_
  refine ws_seq (ws_for (wi_lst (wr_fldV rfl web_pairs ⟨_, rfl, _, rfl, ?_⟩)))
  refine ws_loop (fun j ρ => ∃ x4, ρ = st (.own (rowD (ks ++ ((allL F).take j).map (numOf F N)) w')) x4 .no .no .no) ⟨_, by rw [List.take_zero, List.map_nil, List.append_nil]⟩ ?_ ?_
  · rintro j hj ρ ⟨x4, rfl⟩
    have hj' : j < (allL F).length := by simpa using hj
    rw [List.getElem_map]
    have hp := List.getElem_mem hj'
    have tk : (allL F).take (j + 1) = (allL F).take j ++ [(allL F)[j]] := List.take_succ_eq_append_getElem hj'
    have fp : (allL F)[j] ∉ (allL F).take j := fun z => by
      have := (allL_nd F).sublist (List.take_sublist (j + 1) (allL F))
      rw [tk, List.nodup_append] at this
      exact this.2.2 _ z _ (by simp) rfl
    have ix := num_ix (f := numOf F N) (allL_nd F) hp
    generalize (allL F)[j] = p at hp tk fp ix ⊢
    obtain ⟨pb, pd, pc⟩ := ssh_ptb (T := T) hp hth R.ok M0 hM
    have fresh : numOf F N p ∉ ks ++ ((allL F).take j).map (numOf F N) := fun z => by
      rcases List.mem_append.mp z with z | z
      · obtain ⟨t, ht, e⟩ := (kold _).mp z
        have := fst1_gt hN ht
        have := (num_rng (F := F) (by omega) (N := N) hp).1
        omega
      · obtain ⟨q, hq, e⟩ := List.mem_map.mp z
        have : q = p := idx_inj (List.mem_of_mem_take hq) hp (by unfold numOf at e; omega)
        exact fp (by rw [<- this]; exact hq)
    refine ⟨_, rfl, ?_⟩
    refine ws_norm (ρ' := st (.own (rowD (ks ++ ((allL F).take j).map (numOf F N)) w')) (.v (pD p)) .no .no .no) rfl ?_
    refine ws_put (wr_fn' (wl_cons (wr_fn' (wl_cons (wr_v rfl ⟨_, rfl, wl_cons (wr_v rfl ⟨_, rfl, wl_nil ?_⟩)⟩)))))
    refine (side_shares_wr (T := T) (Q := Q) h.wb.nd hth).mono fun s y hs => ?_
    subst hs
    refine ⟨⟨_, rfl⟩, _, rfl, wl_cons (wr_v rfl ⟨_, rfl, wl_nil ?_⟩)⟩
    refine (made_wr (w := w) (fun q hq => R.ix _ (pc q hq)) (ptb_ok pb).1).mono fun s y hs => ?_
    subst hs
    refine ⟨⟨_, rfl⟩, _, rfl, _, rfl, wr_ixV rfl (wr_v rfl ⟨_, rfl, _, _, rfl, ix, _, rfl, _, rowD (ks ++ ((allL F).take (j + 1)).map (numOf F N)) w', rfl, ?_, ?_⟩)⟩
    · rw [tk, List.map_append, <- List.append_assoc, <- wNew_new (N := N) (Q := Q) hp, <- hw']
      exact row_put fresh (by simp only [List.length_append, List.length_map, List.length_take]; omega)
    · exact ⟨_, rfl⟩
  rintro ρ ⟨x4, rfl⟩
  rw [List.length_map, List.take_length]
  refine ws_seq (ws_set1 (wr_newT ⟨rfl, ?_⟩))
  obtain ⟨ks', hks'⟩ : ∃ ks', ks' = ks ++ (allL F).map (numOf F N) := ⟨_, rfl⟩
  rw [<- hks']
  refine ws_norm (ρ' := st (.own (rowD ks' w')) x4 (.own (tolD [])) .no .no) (by unfold tolD; rfl) ?_
  have tkeys : keysD (tolD T) = some (T.map pD) := by
    unfold tolD
    show some ((T.map Ck.pk).map fun k => D.tup (k.map kD)) = some (T.map pD)
    rw [List.map_map]
    rfl
  refine ws_seq (ws_forK (dd := tolD T) (by exact web_told) tkeys ?_)
  refine ws_loop (fun j ρ => ∃ T2 x6 x7, T2.length ≤ 2 * j /\ (∀ p, p ∈ T2 ↔ ∃ q ∈ T.take j, p = (q.1, numOf F N q) \/ p = (q.2, numOf F N q)) /\ ρ = st (.own (rowD ks' w')) x4 (.own (tolD T2)) x6 x7) ⟨[], _, _, by simp, by simp, rfl⟩ ?_ ?_
  · rintro j hj ρ ⟨T2, x6, x7, l2, m2, rfl⟩
    have hj' : j < T.length := by simpa using hj
    rw [List.getElem_map]
    have hp := hT _ (List.getElem_mem hj')
    have ix := num_ix (f := numOf F N) (allL_nd F) hp
    have tj : T.take (j + 1) = T.take j ++ [T[j]] := List.take_succ_eq_append_getElem hj'
    generalize T[j] = p at hp ix tj ⊢
    refine ⟨_, rfl, ?_⟩
    refine ws_norm (ρ' := st (.own (rowD ks' w')) x4 (.own (tolD T2)) (.v (.int p.1)) (.v (.int p.2))) rfl ?_
    refine ws_seq (ws_put (wr_c ⟨_, rfl, _, rfl, wr_tup (wl_cons (wr_v rfl ⟨_, rfl, wl_cons (wr_ixV rfl (wr_tup (wl_cons (wr_v rfl ⟨_, rfl, wl_cons (wr_v rfl ⟨_, rfl, wl_nil ⟨_, rfl, _, _, rfl, ix, _, rfl, wl_nil ⟨_, rfl, _, tolD (addU T2 (p.1, numOf F N p)), rfl, tol_put T2 (p.1, numOf F N p) (by omega), ?_⟩⟩⟩)⟩))))⟩))⟩))
    have a1 := addU_le T2 (p.1, numOf F N p)
    have a2 := addU_le (addU T2 (p.1, numOf F N p)) (p.2, numOf F N p)
    refine ws_norm (ρ' := st (.own (rowD ks' w')) x4 (.own (tolD (addU T2 (p.1, numOf F N p)))) (.v (.int p.1)) (.v (.int p.2))) rfl ?_
    refine ws_put (wr_c ⟨_, rfl, _, rfl, wr_tup (wl_cons (wr_v rfl ⟨_, rfl, wl_cons (wr_ixV rfl (wr_tup (wl_cons (wr_v rfl ⟨_, rfl, wl_cons (wr_v rfl ⟨_, rfl, wl_nil ⟨_, rfl, _, _, rfl, ix, _, rfl, wl_nil ⟨_, rfl, _, tolD (addU (addU T2 (p.1, numOf F N p)) (p.2, numOf F N p)), rfl, tol_put _ (p.2, numOf F N p) (by omega), ?_⟩⟩⟩)⟩))))⟩))⟩)
    refine ⟨addU (addU T2 (p.1, numOf F N p)) (p.2, numOf F N p), _, _, by omega, fun x => ?_, rfl⟩
    rw [addU_mem, addU_mem, m2, tj]
    constructor
    · rintro ((⟨q, hq, e⟩ | e) | e)
      · exact ⟨q, List.mem_append_left _ hq, e⟩
      · exact ⟨p, by simp, .inl e⟩
      · exact ⟨p, by simp, .inr e⟩
    · rintro ⟨q, hq, e⟩
      rcases List.mem_append.mp hq with hq | hq
      · exact .inl (.inl ⟨q, hq, e⟩)
      · rw [List.mem_singleton.mp hq] at e
        rcases e with e | e
        · exact .inl (.inr e)
        · exact .inr e
  rintro ρ ⟨T2, x6, x7, l2, m2, rfl⟩
  rw [List.length_map, List.take_length] at m2
  refine ws_ret (wr_tup (wl_cons (wr_make (wl_cons (wr_fn' (wl_cons (wr_v rfl ⟨_, rfl, wl_cons (wr_o rfl ⟨_, rfl, wl_nil ?_⟩)⟩)))))))
  refine (cut_faces_wr (F := F) (by omega)).mono fun s y hs => ?_
  subst hs
  refine ⟨⟨_, rfl⟩, _, rfl, wl_cons (wr_o rfl ⟨_, rfl, wl_cons (wr_fldV rfl web_quick ⟨_, rfl, wl_nil (wl_nil ?_)⟩)⟩)⟩
  refine (webp_wr prt' T2 Q).mono fun s x hs => ?_
  obtain ⟨rfl, N', x', hN', rfl⟩ := hs
  refine ⟨rfl, _, _, rfl, _, rfl, wl_cons (wr_o rfl ⟨_, rfl, wl_nil ?_⟩)⟩
  have ek : nKeys F N = ks' := by rw [hks', hks]; rfl
  rw [ek, <- hw']
  refine ⟨N', T2, hN', m2, ⟨fun c hc => row_ix ?_, fun c hc => ?_⟩, rfl⟩
  · obtain ⟨t, ht, rfl⟩ := hc
    have ct := mem_cut.mp ((cut_spokes (midF F N) F).mem_iff.mp ht)
    have new : ∀ {a b c : Int}, (a, b, c) ∈ spokes F -> midF F N a b ∈ ks' := fun {a b c} hs => by
      rw [hks']
      exact List.mem_append_right _ (List.mem_map.mpr ⟨pr a b, pr_all hs, rfl⟩)
    cases ct with
    | a a b c hs => rw [hks']; exact List.mem_append_left _ ((kold _).mpr ⟨_, hs, rfl⟩)
    | b a b c hs => exact new hs
    | c a b c hs => exact new (h.wb.r2 hs)
    | d a b c hs => exact new hs
  · obtain ⟨t, ht, rfl⟩ := hc
    have ct := mem_cut.mp ((cut_spokes (midF F N) F).mem_iff.mp ht)
    rw [hw']
    have new : ∀ {a b c : Int}, (a, b, c) ∈ spokes F -> WtB (6720 * M) (wNew F N T Q th w (midF F N a b)) := fun {a b c} hs => by
      rw [wNew_new (pr_all hs)]
      obtain ⟨pb, pd, _⟩ := ssh_ptb (T := T) (pr_all hs) hth R.ok M0 hM
      exact (ptb_ok pb).2.up (Nat.mul_dvd_mul_right pd M)
    cases ct with
    | a a b c hs =>
      have hc : IsC F a := ⟨_, hs, rfl⟩
      rw [wNew_old hN hc]
      obtain ⟨pb, pd, _⟩ := csh_ptb h (T := T) (Q := Q) hc R.ok M0 hM
      exact (ptb_ok pb).2.up (Nat.mul_dvd_mul_right pd M)
    | b a b c hs => exact new hs
    | c a b c hs => exact new (h.wb.r2 hs)
    | d a b c hs => exact new hs
def SupW (S : Int -> Prop) (w : Wt0) : Prop := ∀ p ∈ w.2, S p.1
theorem sup_blend {S : Int -> Prop} {P : List (Int × Wt0)} {u : Nat} (h : ∀ p ∈ P, SupW S p.2) : SupW S (blendF P u) := by
 intro p hp
 obtain ⟨q, hq, rfl⟩ := List.mem_map.mp hp
 show S q.1
 obtain ⟨c, hc, rfl⟩ := List.mem_map.mp hq
 have hc1 : c ∈ PySem.W.sortI (keyU (flatL P)) := (List.mem_filter.mp hc).1
 have hc2 := (PySem.W.sortI_perm _).mem_iff.mp hc1
 obtain ⟨r, hr, e⟩ := ((keyU_all _).2.2 c).mp hc2
 obtain ⟨p0, hp0, hr0⟩ := List.mem_flatMap.mp hr
 obtain ⟨s, hs, rfl⟩ := List.mem_map.mp hr0
 show S c
 rw [<- e]
 exact h p0 hp0 s hs
theorem isc_cut {F : List Tri} {N : NC} (wb : WB (spokes F)) {c : Int} : IsC (cutF (midF F N) F) c ↔ IsC F c \/ ∃ p ∈ allL F, c = numOf F N p := by
 constructor
 ·rintro ⟨t, ht, rfl⟩
  have ct := mem_cut.mp ((cut_spokes (midF F N) F).mem_iff.mp ht)
  have new : ∀ {a b c : Int}, (a, b, c) ∈ spokes F -> ∃ p ∈ allL F, midF F N a b = numOf F N p := fun {a b c} hs => ⟨pr a b, pr_all hs, rfl⟩
  cases ct with
  | a a b c hs => exact .inl ⟨_, hs, rfl⟩
  | b a b c hs => exact .inr (new hs)
  | c a b c hs => exact .inr (new (wb.r2 hs))
  | d a b c hs => exact .inr (new hs)
 ·have back : ∀ t : Tri, Ct (spokes F) (midF F N) t -> IsC (cutF (midF F N) F) t.1 := fun t h => ⟨t, (cut_spokes (midF F N) F).mem_iff.mpr (mem_cut.mpr h), rfl⟩
  rintro (⟨⟨a, b, d⟩, ht, rfl⟩ | ⟨p, hp, rfl⟩)
  ·exact back (a, midF F N a b, midF F N d a) (Ct.a a b d ht)
  ·obtain ⟨⟨a, b, d⟩, ht, rfl⟩ := allL_mem.mp hp
   exact back (midF F N a b, midF F N b d, midF F N d a) (Ct.d a b d ht)
theorem csh_sup {F : List Tri} {B : Int} (h : WPt F B) {T : List IP} {Q : List Int} {v : Int} (hv : IsC F v) {w : Int -> Wt0} {M : Nat} (hw : ∀ c, IsC F c -> WtB M (w c)) (M0 : 0 < M) (hM : 64 * M < 2 ^ 62) {S : Int -> Prop} (hs : ∀ c, IsC F c -> SupW S (w c)) : SupW S (blendF ((cshF F T Q v).1.map fun p => (p.1, w p.2)) (cshF F T Q v).2) := by
 obtain ⟨pb, pd, pc⟩ := csh_ptb h (T := T) (Q := Q) hv hw M0 hM
 refine sup_blend fun p hp => ?_
 obtain ⟨q, hq, rfl⟩ := List.mem_map.mp hp
 exact hs _ (pc q hq)
theorem ssh_sup {F : List Tri} {T : List IP} {p : IP} (hp : p ∈ allL F) {th : IP -> Int} (hth : ∀ w, w ∈ (spokes F).map way -> (w.1, w.2, th w) ∈ spokes F) {w : Int -> Wt0} {M : Nat} (hw : ∀ c, IsC F c -> WtB M (w c)) (M0 : 0 < M) (hM : 64 * M < 2 ^ 62) {S : Int -> Prop} (hs : ∀ c, IsC F c -> SupW S (w c)) : SupW S (blendF ((sshF F T th p).1.map fun p => (p.1, w p.2)) (sshF F T th p).2) := by
 obtain ⟨pb, pd, pc⟩ := ssh_ptb (T := T) hp hth hw M0 hM
 refine sup_blend fun p hp => ?_
 obtain ⟨q, hq, rfl⟩ := List.mem_map.mp hp
 exact hs _ (pc q hq)
theorem tch_len {F : List Tri} (n : Nb8 (spokes F)) (nd : ((spokes F).map way).Nodup) (t : Tri) : (tchF F t).length ≤ 24 := by
 have h1 : ∀ F : List Tri, (tchF F t).length ≤ ((spokes F).filter fun s => decide (s.1 ∈ l3 t)).length := by
  intro F
  induction F with
  | nil => simp [tchF]
  | cons u F ih =>
   have e : (spokes (u :: F)).filter (fun s => decide (s.1 ∈ l3 t)) = (spk u).filter (fun s => decide (s.1 ∈ l3 t)) ++ (spokes F).filter fun s => decide (s.1 ∈ l3 t) := by rw [spokes_cons, List.filter_append]
   rw [e, List.length_append]
   unfold tchF at ih ⊢
   rw [List.filter_cons]
   split
   ·rename_i hu
    have : 1 ≤ ((spk u).filter fun s => decide (s.1 ∈ l3 t)).length := by
     unfold tchB at hu
     simp only [Bool.or_eq_true, decide_eq_true_eq] at hu
     rcases hu with z | z | z
     ·exact List.length_pos_of_mem (a := u) (List.mem_filter.mpr ⟨by simp [spk], decide_eq_true z⟩)
     ·exact List.length_pos_of_mem (a := rt u) (List.mem_filter.mpr ⟨by simp [spk], decide_eq_true z⟩)
     ·exact List.length_pos_of_mem (a := rt (rt u)) (List.mem_filter.mpr ⟨by simp [spk], decide_eq_true z⟩)
    rw [List.length_cons]
    omega
   ·omega
 have h2 : ∀ S : List Tri, (S.filter fun s => decide (s.1 ∈ l3 t)).length ≤ (lnk t.1 S).length + (lnk t.2.1 S).length + (lnk t.2.2 S).length := by
  intro S
  induction S with
  | nil => simp
  | cons s S ih =>
   obtain ⟨a, b, c⟩ := s
   have k : ∀ v, (lnk v ((a, b, c) :: S)).length = (lnk v S).length + if a = v then 1 else 0 := fun v => by
    by_cases e : a = v
    ·subst e
     rw [lnk_yes, List.length_cons, if_pos rfl]
    ·rw [lnk_no e, if_neg e, Nat.add_zero]
   rw [k, k, k, List.filter_cons]
   split
   ·rename_i hu
    have hu : a ∈ l3 t := of_decide_eq_true hu
    simp only [l3, List.mem_cons, List.not_mem_nil, or_false] at hu
    rw [List.length_cons]
    rcases hu with e | e | e
    ·rw [if_pos e]; omega
    ·rw [if_pos e]; omega
    ·rw [if_pos e]; omega
   ·omega
 have a := (nb_deg n nd t.1).2.1
 have b := (nb_deg n nd t.2.1).2.1
 have c := (nb_deg n nd t.2.2).2.1
 have := h1 F
 have := h2 (spokes F)
 omega
theorem WB.part {F : List Tri} (h : WB (spokes F)) (t : Tri) : WB (spokes (tchF F t)) where
 rot := spokes_rot
 nd := h.nd.sublist ((spokes_sublist List.filter_sublist).map _)
 irr := fun s hs => h.irr s (tch_sub hs)
 np := fun a b c h1 h2 => h.np a b c (tch_sub h1) (tch_sub h2)
theorem self_tch {F : List Tri} {t : Tri} (ht : t ∈ F) : t ∈ tchF F t := List.mem_filter.mpr ⟨ht, by unfold tchB l3; simp⟩
theorem wpt_part {F : List Tri} {B : Int} (wb : WB (spokes F)) (nb : Nb8 (spokes F)) (rg : ∀ t ∈ spokes F, 0 ≤ t.1 /\ t.1 < B) {t : Tri} (ht : t ∈ F) : WPt (tchF F t) B where
 wb := WB.part wb t
 nb := nb.sub fun s hs => tch_sub hs
 fl := Nat.le_trans (tch_len nb wb.nd t) (by decide)
 rng := fun s hs => rg s (tch_sub hs)
 ne := fun z => by
  have := self_tch ht
  rw [z] at this
  cases this
def four (mid : Int -> Int -> Int) (t : Tri) : List Tri := [(t.1, mid t.1 t.2.1, mid t.2.2 t.1), (t.2.1, mid t.2.1 t.2.2, mid t.1 t.2.1), (t.2.2, mid t.2.2 t.1, mid t.2.1 t.2.2), (mid t.1 t.2.1, mid t.2.1 t.2.2, mid t.2.2 t.1)]
theorem four_cut {mid : Int -> Int -> Int} {F : List Tri} {t u : Tri} (ht : t ∈ F) (hu : u ∈ four mid t) : u ∈ cutF mid F := List.mem_flatMap.mpr ⟨t, ht, hu⟩
structure Lv (S : Int -> Prop) (F : List Tri) (N : NC) (T : List IP) (Q : List Int) (B : Int) (M : Nat) (Rw : D) (w : Int -> Wt0) (t : Tri) : Prop where
 wpt : WPt F B
 nest : NestOk (spokes F) N
 tm : t ∈ F
 row : ∀ v ∈ l3 t, ∃ r cl, Row (lnk v (spokes F)) r cl
 tsub : ∀ p ∈ T, p ∈ allL F
 tl : T.length ≤ 900
 qsub : ∀ v ∈ Q, IsC F v
 rw : RwOk F M Rw w
 sup : ∀ c, IsC F c -> SupW S (w c)
theorem l3_isc {F : List Tri} {t : Tri} (ht : t ∈ F) {v : Int} (hv : v ∈ l3 t) : IsC F v := by
 have m0 := mem_spokes ht
 simp only [l3, List.mem_cons, List.not_mem_nil, or_false] at hv
 rcases hv with rfl | rfl | rfl
 ·exact ⟨_, m0, rfl⟩
 ·exact ⟨_, spokes_rot _ m0, rfl⟩
 ·exact ⟨_, spokes_rot _ (spokes_rot _ m0), rfl⟩
theorem cut_rows {F : List Tri} {N : NC} (wb : WB (spokes F)) (hN : NestOk (spokes F) N) {t : Tri} (ht : t ∈ F) (row : ∀ v ∈ l3 t, ∃ r cl, Row (lnk v (spokes F)) r cl) {u : Tri} (hu : u ∈ four (midF F N) t) : ∀ v ∈ l3 u, ∃ r cl, Row (lnk v (spokes (cutF (midF F N) F))) r cl := by
 obtain ⟨a, b, c⟩ := t
 have m := num_mid hN
 have s1 := mem_spokes ht
 have s2 := wb.r1 s1
 have s3 := wb.r2 s1
 have old : ∀ v ∈ l3 (a, b, c), ∃ r cl, Row (lnk v (spokes (cutF (midF F N) F))) r cl := fun v hv => by
  obtain ⟨r, cl, hr⟩ := row v hv
  exact ⟨_, cl, (row_old wb m hr).perm (lnk_cutF v)⟩
 have new : ∀ {a b c : Int}, (a, b, c) ∈ spokes F -> ∃ r cl, Row (lnk (midF F N a b) (spokes (cutF (midF F N) F))) r cl := fun {a b c} hs => by
  by_cases hw : (b, a) ∈ (spokes F).map way
  ·obtain ⟨⟨x, y, d⟩, hd, e⟩ := List.mem_map.mp hw
   simp only [way, Prod.mk.injEq] at e
   obtain ⟨rfl, rfl⟩ := e
   exact ⟨_, _, (row_in wb m hs hd).perm (lnk_cutF _)⟩
  ·exact ⟨_, _, (row_rim wb m hs hw).perm (lnk_cutF _)⟩
 simp only [four, List.mem_cons, List.not_mem_nil, or_false] at hu
 intro v hv
 rcases hu with rfl | rfl | rfl | rfl <;> simp only [l3, List.mem_cons, List.not_mem_nil, or_false] at hv <;> rcases hv with rfl | rfl | rfl <;> first | exact new s1 | exact new s2 | exact new s3 | exact old _ (by simp [l3])
theorem Lv.next {S : Int -> Prop} {F : List Tri} {N : NC} {T : List IP} {Q : List Int} {B : Int} {M : Nat} {Rw : D} {w : Int -> Wt0} {t : Tri} (h : Lv S F N T Q B M Rw w t) (hB : B ≤ 900000) {u : Tri} (hu : u ∈ four (midF F N) t) {T1 : List IP} {Q1 : List Int} {N2 : NC} {Rw2 : D} {w2 : Int -> Wt0}
    (hN2 : NestOk (spokes (tchF (cutF (midF F N) F) u)) N2) (hR : RwOk (cutF (midF F N) F) (6720 * M) Rw2 w2) (hS : ∀ c, IsC (cutF (midF F N) F) c -> SupW S (w2 c)) :
    Lv S (tchF (cutF (midF F N) F) u) N2 ((allL (tchF (cutF (midF F N) F) u)).filter fun p => decide (p ∈ T1 /\ InnerW (spokes (tchF (cutF (midF F N) F) u)) p)) ((ckeys N2).filter fun v => decide (v ∈ Q1)) (B + 900) (6720 * M) Rw2 w2 u := by
  obtain ⟨prt, rg, wb, nb, ne⟩ := h.wpt.cut hB h.nest
  have um := four_cut h.tm hu
  have up : ∀ c, IsC (tchF (cutF (midF F N) F) u) c -> IsC (cutF (midF F N) F) c := fun c ⟨s, hs, e⟩ => ⟨s, tch_sub hs, e⟩
  have wp := wpt_part wb nb rg um
  exact ⟨wp, hN2, self_tch um, fun v hv => by rw [lnk_tch hv]; exact cut_rows h.wpt.wb h.nest h.tm h.row hu v hv, fun p hp => (List.mem_filter.mp hp).1, Nat.le_trans (List.length_filter_le _ _) (allL_900 (by have := wp.fl; omega)),
    fun v hv => (isc_key hN2).mp (List.mem_filter.mp hv).1, ⟨fun c hc => hR.ix c (up c hc), fun c hc => hR.ok c (up c hc)⟩, fun c hc => hS c (up c hc)⟩
theorem pow_6720 {e : Nat} (h : e ≤ 3) : 64 * 6720 ^ e < 2 ^ 62 := by
 have : e = 0 \/ e = 1 \/ e = 2 \/ e = 3 := by omega
 rcases this with rfl | rfl | rfl | rfl <;> decide
def outV : MR -> D
 | .ok (.v d, _) => d
 | .ok (.own d, _) => d
 | _ => .non
def fst2 : D -> D
 | .tup [a, _] => a
 | d => d
def snd2 : D -> D
 | .tup [_, b] => b
 | d => d
noncomputable def rStep (x : D × D × D × D) (m : Nat) : D × D × D × D :=
  (outV (m_part_of [.v (fst2 (outV (m_cut_web [.v x.1, .v x.2.1]))), .v (fst2 (outV (m_narrower [.v x.2.2.1, .v (outV (m_numbered [.v x.1])), .v (.int (m : Nat)), .v x.2.2.2])))]),
   snd2 (outV (m_cut_web [.v x.1, .v x.2.1])),
   fst2 (outV (m_narrower [.v x.2.2.1, .v (outV (m_numbered [.v x.1])), .v (.int (m : Nat)), .v x.2.2.2])),
   snd2 (outV (m_narrower [.v x.2.2.1, .v (outV (m_numbered [.v x.1])), .v (.int (m : Nat)), .v x.2.2.2])))
noncomputable def rIt (x0 : D × D × D × D) (n : Nat) : Nat -> D × D × D × D
 | 0 => x0
 | j + 1 => rStep (rIt x0 n j) (n - j)
theorem row_np {L : List (Int × Int)} {r : List Int} {cl : Bool} (h : Row L r cl) {x y : Int} (h1 : (x, y) ∈ L) (h2 : (y, x) ∈ L) : False := by
 have fn := h.fst_nd
 have one : ∀ {z}, (y, z) ∈ L -> z = x := fun {z} hz => by
  have a := (nxt_mem fn).mpr hz
  have b := (nxt_mem fn).mpr h2
  rw [a] at b
  exact Option.some.inj b
 rcases h.at h1 with ⟨rfl, p, q, e⟩ | ⟨rfl, q, h', _⟩
 ·have m2 : (y, x) ∈ pth r := h.pm.mem_iff.mp h2
  obtain ⟨p', q', e'⟩ := pth_mem m2
  have nd := h.nd
  have a1 : r[p.length]? = some x := by rw [e]; simp
  have a2 : r[p.length + 1]? = some y := by rw [e]; simp
  have b1 : r[p'.length]? = some y := by rw [e']; simp
  have b2 : r[p'.length + 1]? = some x := by rw [e']; simp
  have l1 := (List.getElem?_eq_some_iff.mp a1).1
  have l2 := (List.getElem?_eq_some_iff.mp a2).1
  have c1 := (List.getElem?_inj l1 nd).mp (a1.trans b2.symm)
  have c2 := (List.getElem?_inj l2 nd).mp (a2.trans b1.symm)
  omega
 ·have l3 := h'.c3 rfl
  cases q with
  | nil => simp at l3
  | cons z q =>
   have hz : (y, z) ∈ L := h'.pm.mem_iff.mpr (by simp [stp, wlk, pth])
   have := one hz
   have nd := h'.nd
   rw [List.nodup_cons] at nd
   exact nd.1 (by rw [this]; simp)
theorem vs_wb {S : List Tri} {n : Int} (h : VS S n) : WB S where
 rot := h.rot
 nd := h.nd
 irr := h.irr
 np := fun a b c h1 h2 => by
  obtain ⟨r, cl, hr⟩ := h.row a (h.rng _ h1).1 (h.rng _ h1).2
  exact row_np hr (mem_lnk.mpr h1) (mem_lnk.mpr h2)
theorem vs_nb {S : List Tri} {n : Int} (h : VS S n) : Nb8 S := fun v => by
 by_cases hv : 0 ≤ v /\ v < n
 ·obtain ⟨r, cl, hr⟩ := h.row v hv.1 hv.2
  exact ⟨r, hr.hi, fun p hp => hr.mem_l (x := p.1) (y := p.2) hp⟩
 ·refine ⟨[], by simp, fun p hp => absurd (h.rng _ (mem_lnk.mp hp)) hv⟩
noncomputable def rows0 (W : D) : D := loneD (((gFld ctab_Web "after" W).bind keysD).getD [] |>.map fun d => match d with | .int c => c | _ => 0)
noncomputable def x0R (W t : D) (a b c : Int) : D × D × D × D := (outV (m_part_of [.v W, .v t]), rows0 (outV (m_part_of [.v W, .v t])), t, .lst [.int a, .int b, .int c])
def AtC (t : Tri) (i j k v : Int) : Prop := (i = 1 /\ j = 0 /\ k = 0 /\ v = t.1) \/ (i = 0 /\ j = 1 /\ k = 0 /\ v = t.2.1) \/ (i = 0 /\ j = 0 /\ k = 1 /\ v = t.2.2)
def IsLsh (F : List Tri) (T : List IP) (Q : List Int) (v : Int) (P : List IP) (u : Nat) : Prop :=
 (kindS (decide (v ∈ Q)) (shpL F T v).length = "fast" -> P = [(1, v)] /\ u = 1) /\
 (kindS (decide (v ∈ Q)) (shpL F T v).length = "row" -> P = (4, v) :: (shpL F T v).map (fun u => (1, u)) /\ u = 6) /\
 (kindS (decide (v ∈ Q)) (shpL F T v).length = "end" -> ∃ e R, shpL F T v = [e] /\ Row (lnk v (spokes F)) (e :: R) true /\ P = partE (R.length + 1) v (e :: R) /\ u = endU P) /\
 (kindS (decide (v ∈ Q)) (shpL F T v).length = "smooth" -> (nbL F v).length = 3 -> P = (2, v) :: (nbL F v).map (fun u => (1, u)) /\ u = 5) /\
 (kindS (decide (v ∈ Q)) (shpL F T v).length = "smooth" -> (nbL F v).length ≠ 3 -> P = (((nbL F v).length : Int), v) :: (nbL F v).map (fun u => (1, u)) /\ u = 2 * (nbL F v).length)
theorem row_inner {S : List Tri} (rot : ∀ t ∈ S, rt t ∈ S) {v u : Int} {y z : Int} (h1 : (u, z) ∈ lnk v S) (h2 : (y, u) ∈ lnk v S) : InnerW S (v, u) := by
 refine ⟨List.mem_map.mpr ⟨_, mem_lnk.mp h1, rfl⟩, List.mem_map.mpr ⟨_, rot _ (rot _ (mem_lnk.mp h2)), rfl⟩⟩
theorem inner_row {S : List Tri} (rot : ∀ t ∈ S, rt t ∈ S) {v u : Int} (h : InnerW S (v, u)) : (∃ z, (u, z) ∈ lnk v S) /\ ∃ y, (y, u) ∈ lnk v S := by
 constructor
 ·obtain ⟨⟨a, b, c⟩, ht, e⟩ := List.mem_map.mp h.1
  simp only [way, Prod.mk.injEq] at e
  obtain ⟨rfl, rfl⟩ := e
  exact ⟨c, mem_lnk.mpr ht⟩
 ·obtain ⟨⟨a, b, c⟩, ht, e⟩ := List.mem_map.mp h.2
  simp only [way, Prod.mk.injEq] at e
  obtain ⟨rfl, rfl⟩ := e
  exact ⟨c, mem_lnk.mpr (rot _ ht)⟩
section
variable {F : List Tri} {N : NC} {T : List IP} {a b c : Int}
theorem new_told (hN : NestOk (spokes F) N) (hT : ∀ p ∈ T, p ∈ allL F) (hs : (a, b, c) ∈ spokes F) {T2 : List IP} (hT2 : ∀ p, p ∈ T2 ↔ ∃ q ∈ T, p = (q.1, numOf F N q) \/ p = (q.2, numOf F N q)) {u : Int} : pr (midF F N a b) u ∈ T2 ↔ pr a b ∈ T /\ (u = a \/ u = b) := by
 have hp := pr_all hs
 have fv : fst1 N ≤ midF F N a b := by show fst1 N ≤ numOf F N (pr a b); unfold numOf; omega
 have old : ∀ {q : IP}, q ∈ allL F -> q.1 < fst1 N /\ q.2 < fst1 N := fun {q} hq => by
  obtain ⟨t, ht, rfl⟩ := allL_mem.mp hq
  have x := fst1_gt hN ht
  have y : t.2.1 < fst1 N := fst1_gt hN (spokes_rot _ ht)
  rcases pr_or t.1 t.2.1 with e | e <;> rw [e] <;> exact ⟨by assumption, by assumption⟩
 have oa := old hp
 have ab : (pr a b = (a, b)) \/ (pr a b = (b, a)) := pr_or a b
 have num : ∀ {q : IP}, q ∈ allL F -> numOf F N q = midF F N a b -> q = pr a b := fun {q} hq e => idx_inj hq hp (by
  have e : numOf F N q = numOf F N (pr a b) := e
  unfold numOf at e
  omega)
 rw [hT2]
 constructor
 ·rintro ⟨q, hq, e⟩
  have oq := old (hT q hq)
  have key : ∀ {x : Int}, x < fst1 N -> pr (midF F N a b) u = (x, numOf F N q) -> u = x /\ numOf F N q = midF F N a b := fun {x} hx e => by
   rcases pr_or (midF F N a b) u with e2 | e2
   ·rw [e2] at e
    have := congrArg (·.1) e
    simp only at this
    omega
   ·rw [e2] at e
    exact ⟨congrArg (·.1) e, (congrArg (·.2) e).symm⟩
  rcases e with e | e
  ·obtain ⟨e1, e2⟩ := key oq.1 e
   have := num (hT q hq) e2
   subst this
   refine ⟨hq, ?_⟩
   rcases ab with z | z <;> rw [z] at e1
   ·exact .inl e1
   ·exact .inr e1
  ·obtain ⟨e1, e2⟩ := key oq.2 e
   have := num (hT q hq) e2
   subst this
   refine ⟨hq, ?_⟩
   rcases ab with z | z <;> rw [z] at e1
   ·exact .inr e1
   ·exact .inl e1
 ·rintro ⟨hq, hu⟩
  have uo : u < fst1 N := by
   rcases ab with z | z <;> rw [z] at oa <;> rcases hu with rfl | rfl <;> first | exact oa.1 | exact oa.2
  have e2 : pr (midF F N a b) u = (u, midF F N a b) := by
   unfold pr
   rw [if_pos (by omega), if_neg (by omega)]
  rw [e2]
  refine ⟨pr a b, hq, ?_⟩
  rcases ab with z | z <;> rcases hu with rfl | rfl
  ·left; rw [z]; exact Prod.ext rfl (by show numOf F N (pr u b) = _; rw [z])
  ·right; rw [z]; exact Prod.ext rfl (by show numOf F N (pr a u) = _; rw [z])
  ·right; rw [z]; exact Prod.ext rfl (by show numOf F N (pr u b) = _; rw [z])
  ·left; rw [z]; exact Prod.ext rfl (by show numOf F N (pr a u) = _; rw [z])
theorem new_shp (wb : WB (spokes F)) (hN : NestOk (spokes F) N) (hT : ∀ p ∈ T, p ∈ allL F) (hs : (a, b, c) ∈ spokes F) {T2 : List IP} (hT2 : ∀ p, p ∈ T2 ↔ ∃ q ∈ T, p = (q.1, numOf F N q) \/ p = (q.2, numOf F N q)) {u : Int} :
    u ∈ shpL (cutF (midF F N) F) ((allL (cutF (midF F N) F)).filter fun p => decide (p ∈ T2 /\ InnerW (spokes (cutF (midF F N) F)) p)) (midF F N a b) ↔ shpP F T (pr a b) = true /\ (u = a \/ u = b) := by
  have m := num_mid hN
  have wb' := cutF_wb wb m
  have rot' := wb'.rot
  have lk : ∀ {p}, p ∈ lnk (midF F N a b) (spokes (cutF (midF F N) F)) ↔ p ∈ lnk (midF F N a b) (cutS (midF F N) (spokes F)) := fun {p} => (lnk_cutF _).mem_iff
  have told := new_told hN hT hs hT2 (u := u)
  have ab := wb.dis hs
  have inn : ∀ {w}, InnerW (spokes (cutF (midF F N) F)) (midF F N a b, w) -> (pr (midF F N a b) w ∈ (allL (cutF (midF F N) F)).filter (fun p => decide (p ∈ T2 /\ InnerW (spokes (cutF (midF F N) F)) p)) ↔ pr (midF F N a b) w ∈ T2) := fun {w} hi => by
    rw [List.mem_filter, decide_eq_true_eq]
    refine ⟨fun z => z.2.1, fun z => ⟨inner_all hi, z, innerW_pr.mpr hi⟩⟩
  by_cases hw : (b, a) ∈ (spokes F).map way
  · obtain ⟨⟨x, y, d⟩, hd, e⟩ := List.mem_map.mp hw
    simp only [way, Prod.mk.injEq] at e
    obtain ⟨rfl, rfl⟩ := e
    have hr := (row_in wb m hs hd).perm (lnk_cutF (midF F N y x))
    have hin : InnerW (spokes F) (y, x) := ⟨List.mem_map.mpr ⟨_, hs, rfl⟩, List.mem_map.mpr ⟨_, hd, rfl⟩⟩
    have all : ∀ w ∈ [x, midF F N x c, midF F N c y, y, midF F N y d, midF F N d x], InnerW (spokes (cutF (midF F N) F)) (midF F N y x, w) := by
      intro w hw
      have st : ∀ {p}, p ∈ rnd (midF F N) y x c ++ rnd (midF F N) x y d -> p ∈ lnk (midF F N y x) (spokes (cutF (midF F N) F)) := fun {p} hp => hr.pm.mem_iff.mpr hp
      simp only [List.mem_cons, List.not_mem_nil, or_false] at hw
      rcases hw with rfl | rfl | rfl | rfl | rfl | rfl
      · exact row_inner rot' (st (p := (w, midF F N w c)) (by simp [rnd])) (st (p := (midF F N d w, w)) (by simp [rnd]))
      · exact row_inner rot' (st (p := (_, midF F N c y)) (by simp [rnd])) (st (p := (x, _)) (by simp [rnd]))
      · exact row_inner rot' (st (p := (_, y)) (by simp [rnd])) (st (p := (midF F N x c, _)) (by simp [rnd]))
      · exact row_inner rot' (st (p := (w, midF F N w d)) (by simp [rnd])) (st (p := (midF F N c w, w)) (by simp [rnd]))
      · exact row_inner rot' (st (p := (_, midF F N d x)) (by simp [rnd])) (st (p := (y, _)) (by simp [rnd]))
      · exact row_inner rot' (st (p := (_, x)) (by simp [rnd])) (st (p := (midF F N y d, _)) (by simp [rnd]))
    have sp : shpP F T (pr y x) = true ↔ pr y x ∈ T := by
      unfold shpP
      rw [decide_eq_true (innerW_pr.mpr hin)]
      simp
    rw [sp, <- told]
    unfold shpL
    rw [List.mem_filter, nb_row hr]
    constructor
    · rintro ⟨hu, hp⟩
      have hi := all u hu
      unfold shpP at hp
      rw [decide_eq_true (innerW_pr.mpr hi)] at hp
      simp only [Bool.not_true, Bool.or_false, decide_eq_true_eq] at hp
      exact (inn hi).mp hp
    · intro hp
      have hu : u ∈ [x, midF F N x c, midF F N c y, y, midF F N y d, midF F N d x] := by
        rcases (told.mp hp).2 with rfl | rfl <;> simp
      have hi := all u hu
      refine ⟨hu, ?_⟩
      unfold shpP
      rw [decide_eq_true ((inn hi).mpr hp)]
      rfl
  · have hr := (row_rim wb m hs hw).perm (lnk_cutF (midF F N a b))
    have sp : shpP F T (pr a b) = true := by
      unfold shpP
      rw [decide_eq_false fun z => hw (innerW_pr.mp z).2]
      simp
    rw [sp]
    have pm := hr.pm
    have st : stp [b, midF F N b c, midF F N c a, a] false = rnd (midF F N) a b c := rfl
    rw [st] at pm
    have nd := hr.nd
    simp only [List.nodup_cons, List.mem_cons, List.not_mem_nil, or_false, not_or, not_false_eq_true, List.nodup_nil, and_true] at nd
    unfold shpL
    rw [List.mem_filter, nb_row hr]
    have at_ : ∀ {p}, p ∈ lnk (midF F N a b) (spokes (cutF (midF F N) F)) ↔ p ∈ rnd (midF F N) a b c := fun {p} => pm.mem_iff
    constructor
    · rintro ⟨hu, hp⟩
      refine ⟨rfl, ?_⟩
      simp only [List.mem_cons, List.not_mem_nil, or_false] at hu
      have mids : ∀ {w}, InnerW (spokes (cutF (midF F N) F)) (midF F N a b, w) -> u = w -> u = a \/ u = b := fun {w} hi e => by
        subst e
        unfold shpP at hp
        rw [decide_eq_true (innerW_pr.mpr hi)] at hp
        simp only [Bool.not_true, Bool.or_false, decide_eq_true_eq] at hp
        exact (told.mp ((inn hi).mp hp)).2
      rcases hu with e | e | e | e
      · exact .inr e
      · exact mids (row_inner rot' (at_.mpr (show (midF F N b c, midF F N c a) ∈ _ by simp [rnd])) (at_.mpr (show (b, midF F N b c) ∈ _ by simp [rnd]))) e
      · exact mids (row_inner rot' (at_.mpr (show (midF F N c a, a) ∈ _ by simp [rnd])) (at_.mpr (show (midF F N b c, midF F N c a) ∈ _ by simp [rnd]))) e
      · exact .inl e
    · rintro ⟨_, hu⟩
      have no : ¬ InnerW (spokes (cutF (midF F N) F)) (midF F N a b, u) := fun hi => by
        obtain ⟨⟨z, hz⟩, y, hy⟩ := inner_row rot' hi
        have hz := at_.mp hz
        have hy := at_.mp hy
        simp only [rnd, List.mem_cons, List.not_mem_nil, or_false, Prod.mk.injEq] at hz hy
        rcases hu with rfl | rfl
        · omega
        · omega
      refine ⟨by rcases hu with rfl | rfl <;> simp, ?_⟩
      unfold shpP
      rw [decide_eq_false fun z => no (innerW_pr.mp z)]
      simp
theorem AtC.mem {t : Tri} {i j k v : Int} (h : AtC t i j k v) : v ∈ l3 t := by
 rcases h with ⟨_, _, _, rfl⟩ | ⟨_, _, _, rfl⟩ | ⟨_, _, _, rfl⟩ <;> simp [l3]
def LimV (W : D) (f d : Nat) (i j k : Int) (F : List Tri) (L : D) : Prop := ∃ (hf : f < F.length) (W1 Rw : D) (t : Tri) (sh : D) (i1 j1 k1 v : Int), rIt (x0R W (tD F[f]) (red d i j k).2.1 (red d i j k).2.2.1 (red d i j k).2.2.2) (red d i j k).1 (red d i j k).1 = (W1, Rw, tD t, sh) /\
 (sh = .lst [.int i1, .int j1, .int k1] \/ sh = .tup [.int i1, .int j1, .int k1]) /\ AtC t i1 j1 k1 v /\ L = outV (m_made [.v (outV (m_limit_shares [.v W1, .v (.int v)])), .v Rw])
theorem LimV.one {W : D} {f d : Nat} {i j k : Int} {F : List Tri} {L L' : D} (h : LimV W f d i j k F L) (h' : LimV W f d i j k F L') : L = L' := by
 obtain ⟨hf, W1, Rw, t, sh, i1, j1, k1, v, e1, e2, e3, rfl⟩ := h
 obtain ⟨hf', W1', Rw', t', sh', i1', j1', k1', v', f1, f2, f3, rfl⟩ := h'
 rw [e1] at f1
 simp only [Prod.mk.injEq] at f1
 obtain ⟨rfl, rfl, et, rfl⟩ := f1
 have tt : t = t' := by
  obtain ⟨a, b, c⟩ := t
  obtain ⟨a', b', c'⟩ := t'
  have e := D.tup.inj et
  simp only [List.cons.injEq, D.int.injEq, and_true] at e
  obtain ⟨rfl, rfl, rfl⟩ := e
  rfl
 subst tt
 have ij : i1 = i1' /\ j1 = j1' /\ k1 = k1' := by
  rcases e2 with rfl | rfl <;> rcases f2 with e | e
  ·simp only [D.lst.injEq, List.cons.injEq, D.int.injEq, and_true] at e; exact e
  ·cases e
  ·cases e
  ·simp only [D.tup.injEq, List.cons.injEq, D.int.injEq, and_true] at e; exact e
 obtain ⟨rfl, rfl, rfl⟩ := ij
 have vv : v = v' := by
  unfold AtC at e3 f3
  omega
 rw [vv]
end
@[irreducible] def netD (B : D) (k : Nat) (M Rw Li : D) : D := .ins "Net" ["base", "far", "mesh", "rows", "lies"] [B, .int (k : Nat), M, Rw, Li]
section
variable {B M Rw Li : D} {k : Nat}
theorem noX_net (h1 : noX B = true) (h2 : noX M = true) (h3 : noX Rw = true) (h4 : noX Li = true) : noX (netD B k M Rw Li) = true := by
 unfold netD
 show (noX B && (noX (.int (k : Nat)) && (noX M && (noX Rw && (noX Li && true))))) = true
 rw [h1, h2, h3, h4]; rfl
end
abbrev Lie := Int × IP × IP × IP
abbrev lieD (l : Lie) : D := .tup [.int l.1, pD l.2.1, pD l.2.2.1, pD l.2.2.2]
def lieCut (l : Lie) : List Lie :=
 let p := l.2.1; let q := l.2.2.1; let r := l.2.2.2
 let a : IP := (2 * p.1, 2 * p.2); let b : IP := (2 * q.1, 2 * q.2); let c : IP := (2 * r.1, 2 * r.2)
 let ab : IP := (p.1 + q.1, p.2 + q.2); let bc : IP := (q.1 + r.1, q.2 + r.2); let ca : IP := (r.1 + p.1, r.2 + p.2)
 [(l.1, a, ab, ca), (l.1, b, bc, ab), (l.1, c, ca, bc), (l.1, ab, bc, ca)]
def lie0 (f : Int) : Lie := (f, (1, 0), (0, 1), (0, 0))
noncomputable def nextM (M Rw : D) : D × D := match m_cut_web [.v M, .v Rw] with
 | .ok (.v (.tup [a, b]), _) => (a, b)
 | _ => (.non, .non)
noncomputable def netM (M Rw : D) : Nat -> D × D
 | 0 => (M, Rw)
 | k + 1 => nextM (netM M Rw k).1 (netM M Rw k).2
def lieN (ls : List Lie) : Nat -> List Lie
 | 0 => ls
 | k + 1 => (lieN ls k).flatMap lieCut
structure NetSt (W0 : D) (n0 L k : Nat) (F : List Tri) (N : NC) (T : List IP) (Q : List Int) (Rw : D) (w : Int -> Wt0) (nn : Nat) : Prop where
 wb : WB (spokes F)
 nb : Nb8 (spokes F)
 fl : F.length = L * 4 ^ k
 rng : ∀ t ∈ spokes F, 0 ≤ t.1 /\ t.1 < 24 + 900 * (k : Int)
 ne : F ≠ []
 nest : NestOk (spokes F) N
 tsub : ∀ p ∈ T, p ∈ allL F
 tl : T.length ≤ 900
 rw : RwOk F (6720 ^ k) Rw w
 nx : noX Rw = true
 cn : ∀ c, IsC F c ↔ 0 ≤ c /\ c < (nn : Int)
 gl : gLen Rw = some (.v (.int (nn : Nat)))
 sup : ∀ c, IsC F c -> SupW (fun a => 0 ≤ a /\ a < (n0 : Int)) (w c)
 row : ∀ v, IsC F v -> ∃ r cl, Row (lnk v (spokes F)) r cl
 qsub : ∀ v ∈ Q, IsC F v
 rel : netM W0 (loneD (up n0)) k = (webD F N T Q, Rw)
theorem noX_loneD (ks : List Int) : noX (loneD ks) = true := by unfold loneD; exact noXs_all (fun k => rfl) _
theorem noX_rowD (ks : List Int) (w : Int -> Wt0) : noX (rowD ks w) = true := by
 unfold rowD
 refine noXs_all (fun k => ?_) _
 unfold wtD
 show (noX (.int ((w k).1 : Nat)) && (noXs ((w k).2.map pD) && true)) = true
 rw [noXs_all (fun p => rfl)]; rfl
theorem noX_lies (ls : List Lie) : noX (.lst (ls.map lieD)) = true := noXs_all (fun l => rfl) _
theorem NetSt.start {F : List Tri} {n : Nat} (h : Fine F n) {N : NC} (hN : NestOk (spokes F) N) (E : List IP) (Q : List Int) : NetSt (webD F N ((allL F).filter fun p => decide (p ∈ E /\ InnerW (spokes F) p)) ((ckeys N).filter fun v => decide (v ∈ Q))) n F.length 0 F N ((allL F).filter fun p => decide (p ∈ E /\ InnerW (spokes F) p)) ((ckeys N).filter fun v => decide (v ∈ Q)) (loneD (up n)) lone0 n := by
 have g := h.good
 have n24 := g.n24
 have f32 := g.f32
 have rg : ∀ t ∈ spokes F, 0 ≤ t.1 /\ t.1 < 24 := fun s hs => by have := g.vs.rng s hs; omega
 have rowv : ∀ v, IsC F v -> ∃ r cl, Row (lnk v (spokes F)) r cl := fun v ⟨s, hs, e⟩ => by
  subst e
  exact g.vs.row _ (g.vs.rng s hs).1 (g.vs.rng s hs).2
 refine ⟨vs_wb g.vs, vs_nb g.vs, by simp, fun t ht => by have := rg t ht; omega, ?_, hN, fun p hp => (List.mem_filter.mp hp).1, Nat.le_trans (List.length_filter_le _ _) (allL_900 (by omega)), ⟨fun c hc => lone_ix (by
  obtain ⟨s, hs, rfl⟩ := hc
  exact up_mem.mpr (g.vs.rng s hs)), fun c hc => ?_⟩, noX_loneD _, fun c => ⟨fun ⟨s, hs, e⟩ => by subst e; exact g.vs.rng s hs, fun ⟨c0, c1⟩ => ?_⟩, ?_, fun c ⟨s, hs, e⟩ p hp => ?_, rowv, fun v hv => (isc_key hN).mp (List.mem_filter.mp hv).1, rfl⟩
 ·have := g.f1
  intro e
  rw [e] at this
  simp at this
 ·obtain ⟨s, hs, rfl⟩ := hc
  have := rg s hs
  exact lone_wtb this.1 this.2
 ·obtain ⟨r, cl, hr⟩ := g.vs.row c c0 c1
  obtain ⟨x, hx⟩ := List.exists_mem_of_length_pos (show 0 < r.length by have := hr.lo; omega)
  obtain ⟨p, hp, _⟩ := hr.mem_r hx
  exact ⟨_, mem_lnk.mp hp, rfl⟩
 ·unfold loneD
  show some (Mp.Slot.v (.int (((up n).map (Sum.inl : Int -> Key)).length : Nat))) = _
  rw [List.length_map, up_len]
 ·subst e
  have : p = (s.1, 1) := by simpa [lone0] using hp
  rw [this]
  exact g.vs.rng s hs
def lies0 (L : Nat) : List Lie := (up L).map lie0
def IsNet (P : List Tri) (W0 : D) (L k : Nat) (d : D) : Prop := ∃ F N T Q Rw w nn, NetSt W0 P.length L k F N T Q Rw w nn /\ d = netD (cagD P W0) k (webD F N T Q) Rw (.lst ((lieN (lies0 L) k).map lieD))
theorem IsNet.nx {P : List Tri} {W0 d : D} {L k : Nat} (hB : noX (cagD P W0) = true) (h : IsNet P W0 L k d) : noX d = true := by
 obtain ⟨F, N, T, Q, Rw, w, nn, st, rfl⟩ := h
 have := noX_cag (P := []) (T := T) (Q := Q) st.nest
 unfold cagD at this
 have h2 : noX (webD F N T Q) = true := by
  have h3 : (noX (fD []) && (noX (webD F N T Q) && true)) = true := this
  rw [Bool.and_eq_true, Bool.and_true] at h3
  exact h3.2
 exact noX_net hB h2 st.nx (noX_lies _)
theorem pow_ok {k : Nat} (h : k ≤ 3) : 64 * 6720 ^ k < 2 ^ 62 := pow_6720 h
theorem fst1_is {F : List Tri} {N : NC} (hN : NestOk (spokes F) N) (ne : F ≠ []) {nn : Nat} (cn : ∀ c, IsC F c ↔ 0 ≤ c /\ c < (nn : Int)) : fst1 N = (nn : Int) := by
 have h1 := fst1_le hN (B := (nn : Int)) (fun t ht => ((cn t.1).mp ⟨t, ht, rfl⟩).2) (spokes_ne ne)
 obtain ⟨t0, h0⟩ := List.exists_mem_of_ne_nil _ (spokes_ne ne)
 have hp := (cn t0.1).mp ⟨t0, h0, rfl⟩
 obtain ⟨t, ht, e⟩ := (cn ((nn : Int) - 1)).mpr ⟨by omega, by omega⟩
 have := fst1_gt hN ht
 omega
theorem isc_num {F : List Tri} {N : NC} (wb : WB (spokes F)) (hN : NestOk (spokes F) N) (ne : F ≠ []) {nn : Nat} (cn : ∀ c, IsC F c ↔ 0 ≤ c /\ c < (nn : Int)) (c : Int) : IsC (cutF (midF F N) F) c ↔ 0 ≤ c /\ c < ((nn + (allL F).length : Nat) : Int) := by
 have e := fst1_is hN ne cn
 rw [isc_cut wb, cn]
 constructor
 ·rintro (h | ⟨p, hp, rfl⟩)
  ·omega
  ·have := List.idxOf_lt_length_of_mem hp
   unfold numOf
   omega
 ·rintro ⟨h0, h1⟩
  by_cases hc : c < nn
  ·exact .inl ⟨h0, hc⟩
  ·right
   have hi : (c - nn).toNat < (allL F).length := by omega
   refine ⟨(allL F)[(c - nn).toNat], List.getElem_mem hi, ?_⟩
   unfold numOf
   rw [(allL_nd F).idxOf_getElem _ hi]
   omega
theorem rows_cut {F : List Tri} {N : NC} (wb : WB (spokes F)) (hN : NestOk (spokes F) N) (row : ∀ v, IsC F v -> ∃ r cl, Row (lnk v (spokes F)) r cl) {v : Int} (hv : IsC (cutF (midF F N) F) v) : ∃ r cl, Row (lnk v (spokes (cutF (midF F N) F))) r cl := by
 obtain ⟨s, hs, rfl⟩ := hv
 obtain ⟨u, hu, hsu⟩ := List.mem_flatMap.mp hs
 obtain ⟨t, ht, hut⟩ := List.mem_flatMap.mp hu
 refine cut_rows wb hN ht (fun v hv => row v (l3_isc ht hv)) (u := u) hut s.1 ?_
 rcases mem_spk.mp hsu with rfl | rfl | rfl <;> simp [l3, rt]
inductive Thing (P : List Tri) (W0 : D) (L : Nat) : Nat -> D -> Prop where
 | net {k : Nat} {d : D} (h : IsNet P W0 L k d) : Thing P W0 L k d
 | cage {F : List Tri} {N : NC} {E : List IP} {Q : List Int} (hW : W0 = webOf F N E Q) (h : Fine F P.length) (hN : NestOk (spokes F) N) (hL : L = F.length) : Thing P W0 L 0 (cagD P W0)
theorem Thing.nx {P : List Tri} {W0 d : D} {L k : Nat} (hB : noX (cagD P W0) = true) (h : Thing P W0 L k d) : noX d = true := by
 cases h with
 | net h => exact h.nx hB
 | cage => exact hB
section
variable {W0 : D} {P : List Tri} {L k : Nat} {F : List Tri} {N : NC} {T : List IP} {Q : List Int} {Rw : D} {w : Int -> Wt0} {nn : Nat} {s : Mp.Slot} {B Li : D}
theorem NetSt.ix (st : NetSt W0 P.length L k F N T Q Rw w nn) {c : Int} (hc : c ∈ up nn) : gIx Rw (.int c) = some (wtD (w c)) := st.rw.ix c ((st.cn c).mpr (up_mem.mp hc))
end
structure EqR (k : Nat) (d : D) : Prop where
 lay : Lay k d
 eqv : PyData.eqv d.py d.py = true
theorem eqvAll_self : ∀ {ds : List D}, (∀ d ∈ ds, PyData.eqv d.py d.py = true) -> PyData.eqvAll (D.pys ds) (D.pys ds) = true
 | [], _ => by simp [D.pys, PyData.eqvAll]
 | d :: ds, h => by
  simp only [D.pys, PyData.eqvAll]
  rw [h d (by simp), eqvAll_self fun e he => h e (List.mem_cons_of_mem _ he)]
  rfl
theorem EqR.int {k : Nat} (i : Int) : EqR k (.int i) := ⟨.int i, by rw [eqv_int]; exact decide_eq_true rfl⟩
theorem EqR.tup {k : Nat} {ds : List D} (h : ∀ d ∈ ds, EqR k d) : EqR (k + 1) (.tup ds) := ⟨.tup (.all fun d hd => (h d hd).lay), by rw [eqv_tup]; exact eqvAll_self fun d hd => (h d hd).eqv⟩
theorem EqR.lst {k : Nat} {ds : List D} (h : ∀ d ∈ ds, EqR k d) : EqR (k + 1) (.lst ds) := ⟨.lst (.all fun d hd => (h d hd).lay), by rw [eqv_lst]; exact eqvAll_self fun d hd => (h d hd).eqv⟩
theorem EqR.eqD {k : Nat} {d : D} (h : EqR k d) (hk : k ≤ 64) (c : (∃ ds, d = .tup ds) \/ ∃ ds, d = .lst ds) : Mp.eqD d d = some true := by
 have s := h.lay.shp hk
 have e := h.eqv
 rcases c with ⟨ds, rfl⟩ | ⟨ds, rfl⟩
 ·show (if shp (.tup ds) && shp (.tup ds) then some (PyData.eqv (D.tup ds).py (D.tup ds).py) else none) = _
  rw [s, e]; rfl
 ·show (if shp (.lst ds) && shp (.lst ds) then some (PyData.eqv (D.lst ds).py (D.lst ds).py) else none) = _
  rw [s, e]; rfl
theorem EqR.ne {k : Nat} {d : D} (h : EqR k d) (hk : k ≤ 64) (c : (∃ ds, d = .tup ds) \/ ∃ ds, d = .lst ds) : gNe d d = some (.v (.bl false)) := by
 unfold gNe
 rw [h.eqD hk c]; rfl
theorem foldl_lcm_perm {L L' : List Nat} (p : L.Perm L') : lcmL L = lcmL L' := by
 unfold lcmL
 exact p.foldl_eq' (fun x _ y _ z => by rw [Nat.lcm_assoc, Nat.lcm_comm x y, <- Nat.lcm_assoc]) 1
theorem sum_perm {L L' : List Int} (p : L.Perm L') : L.sum = L'.sum := by
 induction p with
 | nil => rfl
 | cons x _ ih => rw [List.sum_cons, List.sum_cons, ih]
 | swap x y l => rw [List.sum_cons, List.sum_cons, List.sum_cons, List.sum_cons]; omega
 | trans _ _ h1 h2 => rw [h1, h2]
theorem tot_perm {L L' : List (Int × Int)} (p : L.Perm L') (c : Int) : tot L c = tot L' c := sum_perm (p.map _)
theorem rows_perm {L L' : List (Int × Int)} (p : L.Perm L') : rowsL L = rowsL L' := by
 unfold rowsL
 have e1 : PySem.W.sortI (keyU L) = PySem.W.sortI (keyU L') := by
  obtain ⟨n1, _, m1⟩ := keyU_all L
  obtain ⟨n2, _, m2⟩ := keyU_all L'
  have pk : (keyU L).Perm (keyU L') := (List.perm_ext_iff_of_nodup n1 n2).mpr fun c => by
   rw [m1, m2]
   constructor
   ·rintro ⟨q, hq, e⟩; exact ⟨q, p.mem_iff.mp hq, e⟩
   ·rintro ⟨q, hq, e⟩; exact ⟨q, p.mem_iff.mpr hq, e⟩
  exact List.Perm.eq_of_pairwise (le := fun a b => a ≤ b) (fun a b _ _ h1 h2 => by omega) (PySem.W.sortI_rises _) (PySem.W.sortI_rises _) ((PySem.W.sortI_perm _).trans (pk.trans (PySem.W.sortI_perm _).symm))
 have e2 : tot L = tot L' := funext fun c => tot_perm p c
 rw [e1, e2]
theorem blend_perm {P P' : List (Int × Wt0)} (p : P.Perm P') (u : Nat) : blendF P u = blendF P' u := by
 have ew : wideL P = wideL P' := foldl_lcm_perm (p.map _)
 have ef : (flatL P).Perm (flatL P') := by
  unfold flatL
  rw [ew]
  exact p.flatMap_right _
 unfold blendF
 rw [ew, rows_perm ef]
theorem nest_ex : ∀ (S S' : List Tri) {N : NC}, NestOk S' N -> ((S' ++ S).map way).Nodup -> ∃ N, NestOk (S' ++ S) N
 | [], S', N, h, _ => ⟨N, by rw [List.append_nil]; exact h⟩
 | (a, b, c) :: S, S', N, h, nd => by
  have nd2 := nd
  rw [List.map_append, List.map_cons, List.nodup_append] at nd2
  have hn : (a, b) ∉ S'.map way := fun z => nd2.2.2 _ z _ List.mem_cons_self rfl
  have := h.put (c := c) hn
  have e : S' ++ (a, b, c) :: S = (S' ++ [(a, b, c)]) ++ S := by simp
  rw [e] at nd ⊢
  exact nest_ex S _ this nd
open Classical in
noncomputable def nestG (F : List Tri) : NC := if h : ∃ N, NestOk (spokes F) N then Classical.choose h else []
theorem nestG_ok {F : List Tri} (nd : ((spokes F).map way).Nodup) : NestOk (spokes F) (nestG F) := by
 have h : ∃ N, NestOk (spokes F) N := by simpa using nest_ex (spokes F) [] NestOk.nil (by simpa using nd)
 unfold nestG
 rw [dif_pos h]
 exact Classical.choose_spec h
theorem fst1_same {S : List Tri} {N N' : NC} (h : NestOk S N) (h' : NestOk S N') : fst1 N = fst1 N' := by
 obtain ⟨_, n1, m1⟩ := h.ck
 obtain ⟨_, n2, m2⟩ := h'.ck
 have p : ∀ c, c ∈ ckeys N ↔ c ∈ ckeys N' := fun c => (m1 c).trans (m2 c).symm
 unfold fst1
 congr 1
 rcases hL : ckeys N with _ | ⟨x, L⟩
 ·have : ckeys N' = [] := List.eq_nil_iff_forall_not_mem.mpr fun c hc => by have := (p c).mpr hc; rw [hL] at this; simp at this
  rw [this]
 ·have ne' : ckeys N' ≠ [] := fun z => by have := (p x).mp (by rw [hL]; exact List.mem_cons_self); rw [z] at this; simp at this
  obtain ⟨m, hm⟩ := maxI_some (ns := ckeys N) (by rw [hL]; simp)
  obtain ⟨m', hm'⟩ := maxI_some ne'
  rw [<- hL, hm, hm']
  have a := maxI_ok hm
  have b := maxI_ok hm'
  have h1 := b.2 m ((p m).mp a.1)
  have h2 := a.2 m' ((p m').mpr b.1)
  show m = m'
  omega
theorem numOf_same {F : List Tri} {N N' : NC} (h : NestOk (spokes F) N) (h' : NestOk (spokes F) N') : numOf F N = numOf F N' := funext fun p => by
 unfold numOf
 rw [fst1_same h h']
theorem midF_same {F : List Tri} {N N' : NC} (h : NestOk (spokes F) N) (h' : NestOk (spokes F) N') : midF F N = midF F N' := by
 funext a b
 show numOf F N _ = numOf F N' _
 rw [numOf_same h h']
structure GS where
 F : List Tri
 T : List IP
 W : Int -> Wt0
 L : Int -> Int -> Int
noncomputable def thG (F : List Tri) : IP -> Int := Classical.choose (third_ex (spokes F))
theorem thG_ok (F : List Tri) : ∀ w, w ∈ (spokes F).map way -> (w.1, w.2, thG F w) ∈ spokes F := Classical.choose_spec (third_ex (spokes F))
noncomputable abbrev gMid (g : GS) : Int -> Int -> Int := midF g.F (nestG g.F)
noncomputable def gHalf (g : GS) : List IP := g.T.flatMap fun q => [(q.1, numOf g.F (nestG g.F) q), (q.2, numOf g.F (nestG g.F) q)]
theorem gHalf_mem {g : GS} {p : IP} : p ∈ gHalf g ↔ ∃ q ∈ g.T, p = (q.1, numOf g.F (nestG g.F) q) \/ p = (q.2, numOf g.F (nestG g.F) q) := by
 unfold gHalf
 rw [List.mem_flatMap]
 constructor
 ·rintro ⟨q, hq, hp⟩
  simp only [List.mem_cons, List.not_mem_nil, or_false] at hp
  exact ⟨q, hq, hp⟩
 ·rintro ⟨q, hq, hp⟩
  exact ⟨q, hq, by simpa using hp⟩
noncomputable def gNext (Q : List Int) (g : GS) : GS where
 F := cutF (gMid g) g.F
 T := (allL (cutF (gMid g) g.F)).filter fun p => decide (p ∈ gHalf g /\ InnerW (spokes (cutF (gMid g) g.F)) p)
 W := wNew g.F (nestG g.F) g.T Q (thG g.F) g.W
 L := fun x c => if x < fst1 (nestG g.F) then 2 * g.L x c else g.L ((allL g.F).getD (x - fst1 (nestG g.F)).toNat (0, 0)).1 c + g.L ((allL g.F).getD (x - fst1 (nestG g.F)).toNat (0, 0)).2 c
noncomputable def gSeq (Q : List Int) (g : GS) : Nat -> GS
 | 0 => g
 | k + 1 => gNext Q (gSeq Q g k)
def dlt (A c : Int) : Int := if c = A then 1 else 0
def gStart (F : List Tri) (T : List IP) : GS := ⟨F, T, lone0, dlt⟩
structure GOk (g : GS) (nn : Nat) : Prop where
 wb : WB (spokes g.F)
 nb : Nb8 (spokes g.F)
 row : ∀ v, IsC g.F v -> ∃ r cl, Row (lnk v (spokes g.F)) r cl
 tsub : ∀ p ∈ g.T, p ∈ allL g.F
 cn : ∀ c, IsC g.F c ↔ 0 ≤ c /\ c < (nn : Int)
 ne : g.F ≠ []
theorem GOk.nest {g : GS} {nn : Nat} (h : GOk g nn) : NestOk (spokes g.F) (nestG g.F) := nestG_ok h.wb.nd
theorem GOk.next {g : GS} {nn : Nat} (h : GOk g nn) (Q : List Int) : GOk (gNext Q g) (nn + (allL g.F).length) := by
 have m := num_mid h.nest
 refine ⟨cutF_wb h.wb m, ?_, fun v hv => rows_cut h.wb h.nest h.row hv, fun p hp => (List.mem_filter.mp hp).1, fun c => isc_num h.wb h.nest h.ne h.cn c, fun z => ?_⟩
 ·have := cut_nb8 h.wb m h.nb
  intro v
  obtain ⟨R, h1, h2⟩ := this v
  exact ⟨R, h1, fun p hp => h2 p ((lnk_cutF v).mem_iff.mp hp)⟩
 ·have hz : (cutF (gMid g) g.F).length = 0 := by
   have z : cutF (gMid g) g.F = [] := z
   rw [z]; rfl
  rw [cutF_len] at hz
  exact h.ne (List.eq_nil_of_length_eq_zero (by omega))
theorem GOk.seq {g : GS} {nn : Nat} (h : GOk g nn) (Q : List Int) : ∀ k, ∃ nk, GOk (gSeq Q g k) nk
 | 0 => ⟨nn, h⟩
 | k + 1 => by
  obtain ⟨nk, hk⟩ := GOk.seq h Q k
  exact ⟨_, hk.next Q⟩
section
variable {F : List Tri} {N : NC} {T : List IP}
theorem shpL_iff {F : List Tri} {T : List IP} {v u : Int} : u ∈ shpL F T v ↔ u ∈ nbL F v /\ shpP F T (pr v u) = true := by
 unfold shpL
 rw [List.mem_filter]
theorem shp_new (wb : WB (spokes F)) (hN : NestOk (spokes F) N) (hT : ∀ p ∈ T, p ∈ allL F) {a b c : Int} (hs : (a, b, c) ∈ spokes F) {T2 : List IP} (hT2 : ∀ p, p ∈ T2 ↔ ∃ q ∈ T, p = (q.1, numOf F N q) \/ p = (q.2, numOf F N q)) {u : Int} (hu : u ∈ nbL (cutF (midF F N) F) (midF F N a b)) :
    shpP (cutF (midF F N) F) ((allL (cutF (midF F N) F)).filter fun p => decide (p ∈ T2 /\ InnerW (spokes (cutF (midF F N) F)) p)) (pr (midF F N a b) u) = true ↔ shpP F T (pr a b) = true /\ (u = a \/ u = b) := by
  have := new_shp (u := u) wb hN hT hs hT2
  rw [shpL_iff] at this
  exact ⟨fun h => this.mp ⟨hu, h⟩, fun h => (this.mpr h).2⟩
theorem shp_old (wb : WB (spokes F)) (hN : NestOk (spokes F) N) (hT : ∀ p ∈ T, p ∈ allL F) {a b c : Int} (hs : (a, b, c) ∈ spokes F) {T2 : List IP} (hT2 : ∀ p, p ∈ T2 ↔ ∃ q ∈ T, p = (q.1, numOf F N q) \/ p = (q.2, numOf F N q)) {x : Int} (hx : x = a \/ x = b) :
    shpP (cutF (midF F N) F) ((allL (cutF (midF F N) F)).filter fun p => decide (p ∈ T2 /\ InnerW (spokes (cutF (midF F N) F)) p)) (pr x (midF F N a b)) = true ↔ shpP F T (pr a b) = true := by
  have m := num_mid hN
  have mem : ∀ {p : Int × Int}, p ∈ rnd (midF F N) a b c -> (midF F N a b, p.1, p.2) ∈ spokes (cutF (midF F N) F) := fun {p} hp => mem_lnk.mp ((lnk_cutF _).mem_iff.mpr ((mem_new wb m hs).mpr (.inl hp)))
  have hn : x ∈ nbL (cutF (midF F N) F) (midF F N a b) := by
    rcases hx with rfl | rfl
    · exact nbL_mem.mpr ⟨midF F N c x, .inr (mem (p := (midF F N c x, x)) (by simp [rnd]))⟩
    · exact nbL_mem.mpr ⟨midF F N x c, .inl (mem (p := (x, midF F N x c)) (by simp [rnd]))⟩
  rw [pr_comm x, shp_new wb hN hT hs hT2 hn]
  exact ⟨fun h => h.1, fun h => ⟨h, hx⟩⟩
theorem nb_old (wb : WB (spokes F)) (hN : NestOk (spokes F) N) {v : Int} (hv : IsC F v) {u : Int} : u ∈ nbL (cutF (midF F N) F) v ↔ ∃ x ∈ nbL F v, u = midF F N v x := by
 have m := num_mid hN
 obtain ⟨⟨v', b0, c0⟩, h0, rfl⟩ := hv
 have mo := fun {x y} => mem_old wb m h0 (x := x) (y := y)
 have ml : ∀ {x y}, (v', x, y) ∈ spokes (cutF (midF F N) F) ↔ ∃ b c, (v', b, c) ∈ spokes F /\ x = midF F N v' b /\ y = midF F N c v' := fun {x y} => by
  rw [<- mo, <- mem_lnk (p := (x, y)), <- mem_lnk (p := (x, y)), (lnk_cutF _).mem_iff]
 rw [nbL_mem]
 constructor
 ·rintro ⟨y, h | h⟩
  ·obtain ⟨b, c, hs, rfl, rfl⟩ := ml.mp h
   exact ⟨b, nbL_mem.mpr ⟨c, .inl hs⟩, rfl⟩
  ·obtain ⟨b, c, hs, rfl, rfl⟩ := ml.mp h
   exact ⟨c, nbL_mem.mpr ⟨b, .inr hs⟩, m.sym _ _⟩
 ·rintro ⟨x, hx, rfl⟩
  obtain ⟨c, h | h⟩ := nbL_mem.mp hx
  ·exact ⟨midF F N c v', .inl (ml.mpr ⟨x, c, h, rfl, rfl⟩)⟩
  ·exact ⟨midF F N v' c, .inr (ml.mpr ⟨c, x, h, rfl, m.sym _ _⟩)⟩
end
structure Sim (g : GS) (Q : List Int) (F : List Tri) (T : List IP) (Q1 : List Int) (w : Int -> Wt0) (t : Tri) (φ : Int -> Int) : Prop where
 inj : ∀ a b, IsC F a -> IsC F b -> φ a = φ b -> a = b
 map : ∀ a b c, (a, b, c) ∈ spokes F -> (φ a, φ b, φ c) ∈ spokes g.F
 full : ∀ v ∈ l3 t, ∀ y z, (φ v, y, z) ∈ spokes g.F -> ∃ b c, (v, b, c) ∈ spokes F /\ φ b = y /\ φ c = z
 shp : ∀ v ∈ l3 t, ∀ u ∈ nbL F v, (shpP F T (pr v u) = true ↔ shpP g.F g.T (pr (φ v) (φ u)) = true)
 fast : ∀ v ∈ l3 t, (v ∈ Q1 ↔ φ v ∈ Q)
 val : ∀ v, IsC F v -> w v = g.W (φ v)
theorem nbL_nd (F : List Tri) (v : Int) : (nbL F v).Nodup := by
 unfold nbL
 exact (sortU_rises _).imp fun h => Int.ne_of_lt h
theorem shpL_nd (F : List Tri) (T : List IP) (v : Int) : (shpL F T v).Nodup := (nbL_nd F v).sublist List.filter_sublist
theorem map_nd {α β : Type} {f : α -> β} : ∀ {L : List α}, L.Nodup -> (∀ a ∈ L, ∀ b ∈ L, f a = f b -> a = b) -> (L.map f).Nodup
 | [], _, _ => List.nodup_nil
 | a :: L, nd, inj => by
  rw [List.nodup_cons] at nd
  rw [List.map_cons, List.nodup_cons]
  refine ⟨fun z => ?_, map_nd nd.2 fun x hx y hy => inj x (List.mem_cons_of_mem _ hx) y (List.mem_cons_of_mem _ hy)⟩
  obtain ⟨b, hb, e⟩ := List.mem_map.mp z
  have := inj b (List.mem_cons_of_mem _ hb) a List.mem_cons_self e
  exact nd.1 (this ▸ hb)
section
variable {g : GS} {Q : List Int} {F : List Tri} {T : List IP} {Q1 : List Int} {w : Int -> Wt0} {t : Tri} {φ : Int -> Int}
theorem Sim.nb (S : Sim g Q F T Q1 w t φ) {v : Int} (hv : v ∈ l3 t) : ((nbL F v).map φ).Perm (nbL g.F (φ v)) := by
 refine (List.perm_ext_iff_of_nodup (map_nd (nbL_nd F v) fun a ha b hb e => S.inj a b (nb_isc ha) (nb_isc hb) e) (nbL_nd g.F (φ v))).mpr fun u => ?_
 rw [List.mem_map]
 constructor
 ·rintro ⟨x, hx, rfl⟩
  obtain ⟨c, h | h⟩ := nbL_mem.mp hx
  ·exact nbL_mem.mpr ⟨φ c, .inl (S.map _ _ _ h)⟩
  ·exact nbL_mem.mpr ⟨φ c, .inr (S.map _ _ _ h)⟩
 ·intro hu
  obtain ⟨c, h | h⟩ := nbL_mem.mp hu
  ·obtain ⟨b, d, hs, rfl, rfl⟩ := S.full v hv _ _ h
   exact ⟨b, nbL_mem.mpr ⟨d, .inl hs⟩, rfl⟩
  ·obtain ⟨b, d, hs, rfl, rfl⟩ := S.full v hv _ _ h
   exact ⟨d, nbL_mem.mpr ⟨b, .inr hs⟩, rfl⟩
theorem Sim.sh (S : Sim g Q F T Q1 w t φ) {v : Int} (hv : v ∈ l3 t) : ((shpL F T v).map φ).Perm (shpL g.F g.T (φ v)) := by
 have sub : ∀ c ∈ shpL F T v, c ∈ nbL F v := fun c hc => (List.mem_filter.mp hc).1
 refine (List.perm_ext_iff_of_nodup (map_nd (shpL_nd F T v) fun a ha b hb e => S.inj a b (nb_isc (sub _ ha)) (nb_isc (sub _ hb)) e) (shpL_nd g.F g.T (φ v))).mpr fun u => ?_
 rw [List.mem_map, shpL_iff]
 constructor
 ·rintro ⟨x, hx, rfl⟩
  rw [shpL_iff] at hx
  exact ⟨(S.nb hv).mem_iff.mp (List.mem_map.mpr ⟨x, hx.1, rfl⟩), (S.shp v hv x hx.1).mp hx.2⟩
 ·rintro ⟨h1, h2⟩
  obtain ⟨x, hx, rfl⟩ := List.mem_map.mp ((S.nb hv).mem_iff.mpr h1)
  exact ⟨x, shpL_iff.mpr ⟨hx, (S.shp v hv x hx).mpr h2⟩, rfl⟩
theorem Sim.kind (S : Sim g Q F T Q1 w t φ) {v : Int} (hv : v ∈ l3 t) : kindS (decide (v ∈ Q1)) (shpL F T v).length = kindS (decide (φ v ∈ Q)) (shpL g.F g.T (φ v)).length := by
 have e1 := (S.sh hv).length_eq
 rw [List.length_map] at e1
 rw [e1, decide_eq_decide.mpr (S.fast v hv)]
theorem Sim.parts (S : Sim g Q F T Q1 w t φ) {k j : Int} {v : Int} (hv : IsC F v) {L L' : List Int} (hL : ∀ c ∈ L, IsC F c) (p : (L.map φ).Perm L') : (((k, v) :: L.map fun u => (j, u)).map fun p => (p.1, w p.2)).Perm (((k, φ v) :: L'.map fun u => (j, u)).map fun p => (p.1, g.W p.2)) := by
 rw [List.map_cons, List.map_cons, List.map_map, List.map_map, S.val v hv]
 refine List.Perm.cons _ ?_
 have e : L.map ((fun p : Int × Int => (p.1, w p.2)) ∘ fun u => (j, u)) = (L.map φ).map fun u => (j, g.W u) := by
  rw [List.map_map]
  exact List.map_congr_left fun c hc => by show (j, w c) = (j, g.W (φ c)); rw [S.val c (hL c hc)]
 rw [e]
 exact p.map _
theorem Sim.csh (S : Sim g Q F T Q1 w t φ) (ht : t ∈ F) {v : Int} (hv : v ∈ l3 t) : blendF ((cshF F T Q1 v).1.map fun p => (p.1, w p.2)) (cshF F T Q1 v).2 = blendF ((cshF g.F g.T Q (φ v)).1.map fun p => (p.1, g.W p.2)) (cshF g.F g.T Q (φ v)).2 := by
 have ic := l3_isc ht hv
 have e1 := (S.nb hv).length_eq
 rw [List.length_map] at e1
 have sub : ∀ c ∈ shpL F T v, IsC F c := fun c hc => nb_isc (List.mem_filter.mp hc).1
 have nbi : ∀ c ∈ nbL F v, IsC F c := fun c hc => nb_isc hc
 unfold cshF
 rw [S.kind hv, e1]
 split
 ·show blendF [(1, w v)] 1 = blendF [(1, g.W (φ v))] 1
  rw [S.val v ic]
 ·split
  ·exact blend_perm (S.parts ic sub (S.sh hv)) 8
  ·split
   ·exact blend_perm (S.parts ic nbi (S.nb hv)) 16
   ·exact blend_perm (S.parts ic nbi (S.nb hv)) _
theorem ssh_form {F : List Tri} {T : List IP} (nd : ((spokes F).map way).Nodup) {th : IP -> Int} (hth : ∀ w, w ∈ (spokes F).map way -> (w.1, w.2, th w) ∈ spokes F) (w : Int -> Wt0) {a b : Int} {c d : Int} (h : shpP F T (pr a b) = false -> (a, b, c) ∈ spokes F /\ (b, a, d) ∈ spokes F) :
    blendF ((sshF F T th (pr a b)).1.map fun p => (p.1, w p.2)) (sshF F T th (pr a b)).2 = if shpP F T (pr a b) = true then blendF [(1, w a), (1, w b)] 2 else blendF [(3, w a), (3, w b), (1, w c), (1, w d)] 8 := by
  unfold sshF
  by_cases e : shpP F T (pr a b) = true
  · rw [if_pos e, if_pos e]
    rcases pr_or a b with z | z <;> rw [z]
    · rfl
    · exact blend_perm (List.Perm.swap _ _ _) 2
  · rw [if_neg e, if_neg e]
    obtain ⟨h1, h2⟩ := h (by simpa using e)
    have t1 : th (a, b) = c := way_one nd (hth (a, b) (List.mem_map.mpr ⟨_, h1, rfl⟩)) h1
    have t2 : th (b, a) = d := way_one nd (hth (b, a) (List.mem_map.mpr ⟨_, h2, rfl⟩)) h2
    rcases pr_or a b with z | z <;> rw [z]
    · show blendF [(3, w a), (3, w b), (1, w (th (a, b))), (1, w (th (b, a)))] 8 = _
      rw [t1, t2]
    · show blendF [(3, w b), (3, w a), (1, w (th (b, a))), (1, w (th (a, b)))] 8 = _
      rw [t1, t2]
      exact blend_perm ((List.Perm.swap _ _ _).trans (List.Perm.cons _ (List.Perm.cons _ (List.Perm.swap _ _ _)))) 8
theorem shp_inner {F : List Tri} {T : List IP} {a b : Int} (h : shpP F T (pr a b) = false) : ∃ c d, (a, b, c) ∈ spokes F /\ (b, a, d) ∈ spokes F := by
 unfold shpP at h
 simp only [Bool.or_eq_false_iff, Bool.not_eq_false', decide_eq_false_iff_not, decide_eq_true_eq] at h
 have hi := innerW_pr.mp h.2
 obtain ⟨⟨x, y, c⟩, hc, e⟩ := List.mem_map.mp hi.1
 obtain ⟨⟨x', y', d⟩, hd, e'⟩ := List.mem_map.mp hi.2
 simp only [way, Prod.mk.injEq] at e e'
 obtain ⟨rfl, rfl⟩ := e
 obtain ⟨rfl, rfl⟩ := e'
 exact ⟨c, d, hc, hd⟩
theorem Sim.ssh (S : Sim g Q F T Q1 w t φ) (nd : ((spokes F).map way).Nodup) (ndg : ((spokes g.F).map way).Nodup) {th : IP -> Int} (hth : ∀ w, w ∈ (spokes F).map way -> (w.1, w.2, th w) ∈ spokes F) (ht : t ∈ F) {v x : Int} (hv : v ∈ l3 t) (hx : x ∈ nbL F v) :
    blendF ((sshF F T th (pr v x)).1.map fun p => (p.1, w p.2)) (sshF F T th (pr v x)).2 = blendF ((sshF g.F g.T (thG g.F) (pr (φ v) (φ x))).1.map fun p => (p.1, g.W p.2)) (sshF g.F g.T (thG g.F) (pr (φ v) (φ x))).2 := by
  have es := S.shp v hv x hx
  have iv := S.val v (l3_isc ht hv)
  have ix := S.val x (nb_isc hx)
  by_cases e : shpP F T (pr v x) = true
  · rw [ssh_form nd hth w (a := v) (b := x) (c := 0) (d := 0) (fun z => by rw [e] at z; cases z), ssh_form ndg (thG_ok g.F) g.W (a := φ v) (b := φ x) (c := 0) (d := 0) (fun z => by rw [es.mp e] at z; cases z), if_pos e, if_pos (es.mp e), iv, ix]
  · obtain ⟨c, d, hc, hd⟩ := shp_inner (by simpa using e)
    have e' : ¬ shpP g.F g.T (pr (φ v) (φ x)) = true := fun z => e (es.mpr z)
    have ic := S.val c ⟨_, spokes_rot _ (spokes_rot _ hc), rfl⟩
    have id' := S.val d ⟨_, spokes_rot _ (spokes_rot _ hd), rfl⟩
    rw [ssh_form nd hth w (fun _ => ⟨hc, hd⟩), ssh_form ndg (thG_ok g.F) g.W (fun _ => ⟨S.map _ _ _ hc, S.map _ _ _ hd⟩), if_neg e, if_neg e', iv, ix, ic, id']
end
section
variable {F : List Tri} {N : NC}
theorem cut_mem {a b c : Int} : (a, b, c) ∈ spokes (cutF (midF F N) F) ↔ Ct (spokes F) (midF F N) (a, b, c) := ((cut_spokes (midF F N) F).mem_iff).trans mem_cut
theorem cut_old (wb : WB (spokes F)) (hN : NestOk (spokes F) N) {v : Int} (hv : IsC F v) {y z : Int} : (v, y, z) ∈ spokes (cutF (midF F N) F) ↔ ∃ b c, (v, b, c) ∈ spokes F /\ y = midF F N v b /\ z = midF F N c v := by
 obtain ⟨⟨v', b0, c0⟩, h0, rfl⟩ := hv
 rw [<- mem_old wb (num_mid hN) h0, <- mem_lnk (p := (y, z)), <- mem_lnk (p := (y, z)), (lnk_cutF _).mem_iff]
theorem cut_new (wb : WB (spokes F)) (hN : NestOk (spokes F) N) {a b c : Int} (hs : (a, b, c) ∈ spokes F) {y z : Int} : (midF F N a b, y, z) ∈ spokes (cutF (midF F N) F) ↔ (y, z) ∈ rnd (midF F N) a b c \/ ∃ d, (b, a, d) ∈ spokes F /\ (y, z) ∈ rnd (midF F N) b a d := by
 rw [<- mem_new wb (num_mid hN) hs, <- mem_lnk (p := (y, z)), (lnk_cutF _).mem_iff]
theorem rnd_mem {mid : Int -> Int -> Int} {a b c y z : Int} : (y, z) ∈ rnd mid a b c ↔ (y = b /\ z = mid b c) \/ (y = mid b c /\ z = mid c a) \/ (y = mid c a /\ z = a) := by simp [rnd]
theorem nb_new (wb : WB (spokes F)) (hN : NestOk (spokes F) N) {a b c : Int} (hs : (a, b, c) ∈ spokes F) {u : Int} (hu : u ∈ nbL (cutF (midF F N) F) (midF F N a b)) : u = a \/ u = b \/ ∃ v x, (v = a \/ v = b) /\ x ∈ nbL F v /\ u = midF F N v x := by
 have m := num_mid hN
 have one : ∀ {a b c : Int}, (a, b, c) ∈ spokes F -> ∀ {y z : Int}, (y, z) ∈ rnd (midF F N) a b c -> (y = a \/ y = b \/ ∃ v x, (v = a \/ v = b) /\ x ∈ nbL F v /\ y = midF F N v x) /\ (z = a \/ z = b \/ ∃ v x, (v = a \/ v = b) /\ x ∈ nbL F v /\ z = midF F N v x) := fun {a b c} hs {y z} h => by
  have n1 : c ∈ nbL F b := nbL_mem.mpr ⟨a, .inl (wb.r1 hs)⟩
  have n2 : c ∈ nbL F a := nbL_mem.mpr ⟨b, .inr hs⟩
  rcases rnd_mem.mp h with ⟨rfl, rfl⟩ | ⟨rfl, rfl⟩ | ⟨rfl, rfl⟩
  ·exact ⟨.inr (.inl rfl), .inr (.inr ⟨_, _, .inr rfl, n1, rfl⟩)⟩
  ·exact ⟨.inr (.inr ⟨_, _, .inr rfl, n1, rfl⟩), .inr (.inr ⟨_, _, .inl rfl, n2, m.sym _ _⟩)⟩
  ·exact ⟨.inr (.inr ⟨_, _, .inl rfl, n2, m.sym _ _⟩), .inl rfl⟩
 have all : ∀ {y z : Int}, (midF F N a b, y, z) ∈ spokes (cutF (midF F N) F) -> (y = a \/ y = b \/ ∃ v x, (v = a \/ v = b) /\ x ∈ nbL F v /\ y = midF F N v x) /\ (z = a \/ z = b \/ ∃ v x, (v = a \/ v = b) /\ x ∈ nbL F v /\ z = midF F N v x) := fun {y z} h => by
  rcases (cut_new wb hN hs).mp h with h | ⟨d, hd, h⟩
  ·exact one hs h
  ·obtain ⟨h1, h2⟩ := one hd h
   have sw : ∀ {y : Int}, (y = b \/ y = a \/ ∃ v x, (v = b \/ v = a) /\ x ∈ nbL F v /\ y = midF F N v x) -> y = a \/ y = b \/ ∃ v x, (v = a \/ v = b) /\ x ∈ nbL F v /\ y = midF F N v x := fun {y} h => by
    rcases h with h | h | ⟨v, x, hv, h⟩
    ·exact .inr (.inl h)
    ·exact .inl h
    ·exact .inr (.inr ⟨v, x, hv.symm, h⟩)
   exact ⟨sw h1, sw h2⟩
 obtain ⟨c', h | h⟩ := nbL_mem.mp hu
 ·exact (all h).1
 ·exact (all h).2
theorem l3_four {t u : Tri} (wb : WB (spokes F)) (ht : t ∈ F) (hu : u ∈ four (midF F N) t) {v : Int} (hv : v ∈ l3 u) : v ∈ l3 t \/ ∃ x y z, (x, y, z) ∈ spokes F /\ x ∈ l3 t /\ y ∈ l3 t /\ v = midF F N x y := by
 obtain ⟨a, b, c⟩ := t
 have s1 := mem_spokes ht
 have s2 := wb.r1 s1
 have s3 := wb.r2 s1
 have n1 : ∃ x y z, (x, y, z) ∈ spokes F /\ x ∈ l3 (a, b, c) /\ y ∈ l3 (a, b, c) /\ midF F N a b = midF F N x y := ⟨a, b, c, s1, by simp [l3], by simp [l3], rfl⟩
 have n2 : ∃ x y z, (x, y, z) ∈ spokes F /\ x ∈ l3 (a, b, c) /\ y ∈ l3 (a, b, c) /\ midF F N b c = midF F N x y := ⟨b, c, a, s2, by simp [l3], by simp [l3], rfl⟩
 have n3 : ∃ x y z, (x, y, z) ∈ spokes F /\ x ∈ l3 (a, b, c) /\ y ∈ l3 (a, b, c) /\ midF F N c a = midF F N x y := ⟨c, a, b, s3, by simp [l3], by simp [l3], rfl⟩
 simp only [four, List.mem_cons, List.not_mem_nil, or_false] at hu
 rcases hu with rfl | rfl | rfl | rfl <;> simp only [l3, List.mem_cons, List.not_mem_nil, or_false] at hv <;> rcases hv with rfl | rfl | rfl <;> first | exact .inr n1 | exact .inr n2 | exact .inr n3 | exact .inl (by simp [l3])
theorem isc_part {t u : Tri} (wb : WB (spokes F)) (hN : NestOk (spokes F) N) (ht : t ∈ F) (hu : u ∈ four (midF F N) t) {v : Int} (hv : IsC (tchF (cutF (midF F N) F) u) v) : v ∈ l3 t \/ ∃ x y, x ∈ l3 t /\ y ∈ nbL F x /\ v = midF F N x y := by
 have m := num_mid hN
 have wbc := cutF_wb wb m
 obtain ⟨s, hs, rfl⟩ := hv
 obtain ⟨f, hf, hsf⟩ := List.mem_flatMap.mp hs
 obtain ⟨hf1, hf2⟩ := List.mem_filter.mp hf
 -- a corner of u at which the face lies
 have hb : ∃ v0, v0 ∈ l3 u /\ v0 ∈ l3 f := by
  unfold tchB at hf2
  simp only [Bool.or_eq_true, decide_eq_true_eq] at hf2
  rcases hf2 with h | h | h
  ·exact ⟨_, h, by simp [l3]⟩
  ·exact ⟨_, h, by simp [l3]⟩
  ·exact ⟨_, h, by simp [l3]⟩
 obtain ⟨v0, h0, h0f⟩ := hb
 have s1f : s.1 ∈ l3 f := by
  rcases mem_spk.mp hsf with rfl | rfl | rfl <;> simp [l3, rt]
 have f1 := mem_spokes hf1
 have f2 := wbc.rot _ f1
 have f3 := wbc.rot _ f2
 have nb : s.1 = v0 \/ s.1 ∈ nbL (cutF (midF F N) F) v0 := by
  obtain ⟨x, y, z⟩ := f
  simp only [l3, List.mem_cons, List.not_mem_nil, or_false] at s1f h0f
  generalize s.1 = q at s1f ⊢
  have k1 : (x, y, z) ∈ spokes (cutF (midF F N) F) := f1
  have k2 : (y, z, x) ∈ spokes (cutF (midF F N) F) := f2
  have k3 : (z, x, y) ∈ spokes (cutF (midF F N) F) := f3
  rcases h0f with rfl | rfl | rfl <;> rcases s1f with rfl | rfl | rfl <;>
   first | exact .inl rfl | exact .inr (nbL_mem.mpr ⟨_, .inl k1⟩) | exact .inr (nbL_mem.mpr ⟨_, .inl k2⟩) | exact .inr (nbL_mem.mpr ⟨_, .inl k3⟩) | exact .inr (nbL_mem.mpr ⟨_, .inr k1⟩) | exact .inr (nbL_mem.mpr ⟨_, .inr k2⟩) | exact .inr (nbL_mem.mpr ⟨_, .inr k3⟩)
 rcases l3_four wb ht hu h0 with hv0 | ⟨x, y, z, hs', hx, hy, rfl⟩
 ·rcases nb with e | hn
  ·rw [e]; exact .inl hv0
  ·obtain ⟨x, hx, e⟩ := (nb_old wb hN (l3_isc ht hv0)).mp hn
   exact .inr ⟨v0, x, hv0, hx, e⟩
 ·rcases nb with e | hn
  ·exact .inr ⟨x, y, hx, nbL_mem.mpr ⟨z, .inl hs'⟩, e⟩
  ·rcases nb_new wb hN hs' hn with e | e | ⟨v, x', hv, hx', e⟩
   ·rw [e]; exact .inl hx
   ·rw [e]; exact .inl hy
   ·refine .inr ⟨v, x', ?_, hx', e⟩
    rcases hv with rfl | rfl <;> assumption
end
noncomputable def phiN (g : GS) (F : List Tri) (N : NC) (φ : Int -> Int) (x : Int) : Int := if x < fst1 N then φ x else gMid g (φ ((allL F).getD (x - fst1 N).toNat (0, 0)).1) (φ ((allL F).getD (x - fst1 N).toNat (0, 0)).2)
theorem num_get {F : List Tri} {N : NC} {p : IP} (h : p ∈ allL F) : (allL F).getD (numOf F N p - fst1 N).toNat (0, 0) = p := by
 have : (numOf F N p - fst1 N).toNat = (allL F).idxOf p := by unfold numOf; omega
 rw [this, List.getD_eq_getElem?_getD, List.getElem?_eq_getElem (List.idxOf_lt_length_of_mem h), Option.getD_some, List.getElem_idxOf]
section
variable {g : GS} {Q : List Int} {F : List Tri} {N : NC} {T : List IP} {Q1 : List Int} {w : Int -> Wt0} {t : Tri} {φ : Int -> Int} {nn : Nat}
theorem phi_old (hN : NestOk (spokes F) N) {x : Int} (h : IsC F x) : phiN g F N φ x = φ x := by
 obtain ⟨s, hs, rfl⟩ := h
 unfold phiN
 rw [if_pos (fst1_gt hN hs)]
theorem phi_new (hg : GOk g nn) {a b c : Int} (hs : (a, b, c) ∈ spokes F) : phiN g F N φ (midF F N a b) = gMid g (φ a) (φ b) := by
 have hp := pr_all hs
 have e : (allL F).getD (midF F N a b - fst1 N).toNat (0, 0) = pr a b := num_get hp
 unfold phiN
 rw [if_neg (by show ¬ numOf F N (pr a b) < fst1 N; unfold numOf; omega), e]
 rcases pr_or a b with z | z <;> rw [z]
 exact (num_mid hg.nest).sym _ _
theorem Sim.next (hg : GOk g nn) (hQ : ∀ v ∈ Q, IsC g.F v) (S : Sim g Q F T Q1 w t φ) (wb : WB (spokes F)) (hN : NestOk (spokes F) N) (hT : ∀ p ∈ T, p ∈ allL F) (hQ1 : ∀ v ∈ Q1, IsC F v) (ht : t ∈ F) {u : Tri} (hu : u ∈ four (midF F N) t) {T2 : List IP} (hT2 : ∀ p, p ∈ T2 ↔ ∃ q ∈ T, p = (q.1, numOf F N q) \/ p = (q.2, numOf F N q))
    {th : IP -> Int} (hth : ∀ w, w ∈ (spokes F).map way -> (w.1, w.2, th w) ∈ spokes F) {N1 N2 : NC} (hN1 : NestOk (spokes (cutF (midF F N) F)) N1) (hN2 : NestOk (spokes (tchF (cutF (midF F N) F) u)) N2) :
    Sim (gNext Q g) Q (tchF (cutF (midF F N) F) u) ((allL (tchF (cutF (midF F N) F) u)).filter fun p => decide (p ∈ ((allL (cutF (midF F N) F)).filter fun p => decide (p ∈ T2 /\ InnerW (spokes (cutF (midF F N) F)) p)) /\ InnerW (spokes (tchF (cutF (midF F N) F) u)) p))
      ((ckeys N2).filter fun v => decide (v ∈ (ckeys N1).filter fun v => decide (v ∈ Q1))) (wNew F N T Q1 th w) u (phiN g F N φ) := by
  have m := num_mid hN
  have mg := num_mid hg.nest
  have wbc := cutF_wb wb m
  have old : ∀ {x}, IsC F x -> phiN g F N φ x = φ x := fun h => phi_old hN h
  have new : ∀ {a b c}, (a, b, c) ∈ spokes F -> phiN g F N φ (midF F N a b) = gMid g (φ a) (φ b) := fun h => phi_new hg h
  have ic : ∀ {a b c}, (a, b, c) ∈ spokes F -> IsC F a /\ IsC F b /\ IsC F c := fun h => ⟨⟨_, h, rfl⟩, ⟨_, spokes_rot _ h, rfl⟩, ⟨_, spokes_rot _ (spokes_rot _ h), rfl⟩⟩
  have img : ∀ {x}, IsC F x -> IsC g.F (φ x) := fun ⟨⟨a, b, c⟩, hs, e⟩ => ⟨_, S.map _ _ _ hs, by rw [<- e]⟩
  have sub : ∀ {x}, IsC (tchF (cutF (midF F N) F) u) x -> IsC (cutF (midF F N) F) x := fun ⟨s, hs, e⟩ => ⟨s, tch_sub hs, e⟩
  have gF : (gNext Q g).F = cutF (gMid g) g.F := rfl
  have umem := four_cut ht hu
  -- all corners
  have inj : ∀ a b, IsC (cutF (midF F N) F) a -> IsC (cutF (midF F N) F) b -> phiN g F N φ a = phiN g F N φ b -> a = b := by
    have on : ∀ {a : Int} {p : IP}, IsC F a -> p ∈ allL F -> phiN g F N φ a = phiN g F N φ (numOf F N p) -> False := fun {a p} ha hp e => by
      obtain ⟨⟨x, y, z⟩, hs, rfl⟩ := allL_mem.mp hp
      rw [old ha] at e
      have e2 := new hs
      have e : φ a = phiN g F N φ (midF F N x y) := e
      rw [e2] at e
      obtain ⟨⟨a1, a2, a3⟩, has, hae⟩ := img ha
      exact mg.new _ _ _ (S.map _ _ _ hs) _ _ _ has (e.symm.trans hae.symm)
    intro a b ha hb e
    rcases (isc_cut wb).mp ha with ha | ⟨p, hp, rfl⟩ <;> rcases (isc_cut wb).mp hb with hb | ⟨q, hq, rfl⟩
    · rw [old ha, old hb] at e
      exact S.inj a b ha hb e
    · exact (on ha hq e).elim
    · exact (on hb hp e.symm).elim
    · obtain ⟨⟨x, y, z⟩, hs, rfl⟩ := allL_mem.mp hp
      obtain ⟨⟨x', y', z'⟩, hs', rfl⟩ := allL_mem.mp hq
      have e : phiN g F N φ (midF F N x y) = phiN g F N φ (midF F N x' y') := e
      rw [new hs, new hs'] at e
      have c1 := ic hs
      have c2 := ic hs'
      rcases mg.inj _ _ _ (S.map _ _ _ hs) _ _ _ (S.map _ _ _ hs') e with ⟨h1, h2⟩ | ⟨h1, h2⟩
      · have e1 := S.inj _ _ c1.1 c2.1 h1
        have e2 := S.inj _ _ c1.2.1 c2.2.1 h2
        show midF F N x y = midF F N x' y'
        rw [e1, e2]
      · have e1 := S.inj _ _ c1.1 c2.2.1 h1
        have e2 := S.inj _ _ c1.2.1 c2.1 h2
        show midF F N x y = midF F N x' y'
        rw [e1, e2]
        exact m.sym _ _
  have map0 : ∀ a b c, (a, b, c) ∈ spokes (cutF (midF F N) F) -> (phiN g F N φ a, phiN g F N φ b, phiN g F N φ c) ∈ spokes (cutF (gMid g) g.F) := by
    intro a b c h
    have ct := cut_mem.mp h
    generalize e : (a, b, c) = s at ct
    cases ct with
    | a x y z hs =>
      simp only [Prod.mk.injEq] at e
      obtain ⟨rfl, rfl, rfl⟩ := e
      rw [old (ic hs).1, new hs, new (wb.r2 hs)]
      exact cut_mem.mpr (.a _ _ _ (S.map _ _ _ hs))
    | b x y z hs =>
      simp only [Prod.mk.injEq] at e
      obtain ⟨rfl, rfl, rfl⟩ := e
      rw [old (ic hs).1, new hs, new (wb.r2 hs)]
      exact cut_mem.mpr (.b _ _ _ (S.map _ _ _ hs))
    | c x y z hs =>
      simp only [Prod.mk.injEq] at e
      obtain ⟨rfl, rfl, rfl⟩ := e
      rw [old (ic hs).1, new hs, new (wb.r2 hs)]
      exact cut_mem.mpr (.c _ _ _ (S.map _ _ _ hs))
    | d x y z hs =>
      simp only [Prod.mk.injEq] at e
      obtain ⟨rfl, rfl, rfl⟩ := e
      rw [new hs, new (wb.r1 hs), new (wb.r2 hs)]
      exact cut_mem.mpr (.d _ _ _ (S.map _ _ _ hs))
  have tch : ∀ {v y z : Int}, v ∈ l3 u -> ((v, y, z) ∈ spokes (tchF (cutF (midF F N) F) u) ↔ (v, y, z) ∈ spokes (cutF (midF F N) F)) := fun {v y z} hv => by
    have := lnk_tch (F := cutF (midF F N) F) hv
    rw [<- mem_lnk (p := (y, z)), <- mem_lnk (p := (y, z)), this]
  have nbt : ∀ {v}, v ∈ l3 u -> nbL (tchF (cutF (midF F N) F) u) v = nbL (cutF (midF F N) F) v := fun {v} hv => by
    unfold nbL
    rw [lnk_tch hv]
  refine ⟨fun a b ha hb e => inj a b (sub ha) (sub hb) e, fun a b c h => map0 a b c (tch_sub h), fun v hv y z h => ?_, fun v hv x hx => ?_, fun v hv => ?_, fun v hv => ?_⟩
  · -- all round
    rw [gF] at h
    rcases l3_four wb ht hu hv with h0 | ⟨a, b, c, hs, ha, hb, rfl⟩
    · have iv := l3_isc ht h0
      rw [old iv] at h
      obtain ⟨b, c, hbc, rfl, rfl⟩ := (cut_old hg.wb hg.nest (img iv)).mp h
      obtain ⟨b1, c1, h1, rfl, rfl⟩ := S.full v h0 _ _ hbc
      refine ⟨midF F N v b1, midF F N c1 v, (tch hv).mpr ((cut_old wb hN iv).mpr ⟨b1, c1, h1, rfl, rfl⟩), new h1, new (wb.r2 h1)⟩
    · rw [new hs] at h
      have hgs := S.map _ _ _ hs
      have rn : ∀ {a b c : Int}, (a, b, c) ∈ spokes F -> ∀ {y z}, (y, z) ∈ rnd (gMid g) (φ a) (φ b) (φ c) -> ∃ y1 z1, (y1, z1) ∈ rnd (midF F N) a b c /\ phiN g F N φ y1 = y /\ phiN g F N φ z1 = z := fun {a b c} hs {y z} h => by
        have i3 := ic hs
        rcases rnd_mem.mp h with ⟨rfl, rfl⟩ | ⟨rfl, rfl⟩ | ⟨rfl, rfl⟩
        · exact ⟨b, midF F N b c, rnd_mem.mpr (.inl ⟨rfl, rfl⟩), old i3.2.1, new (wb.r1 hs)⟩
        · exact ⟨midF F N b c, midF F N c a, rnd_mem.mpr (.inr (.inl ⟨rfl, rfl⟩)), new (wb.r1 hs), new (wb.r2 hs)⟩
        · exact ⟨midF F N c a, a, rnd_mem.mpr (.inr (.inr ⟨rfl, rfl⟩)), new (wb.r2 hs), old i3.1⟩
      rcases (cut_new hg.wb hg.nest hgs).mp h with h | ⟨d, hd, h⟩
      · obtain ⟨y1, z1, h1, e1, e2⟩ := rn hs h
        exact ⟨y1, z1, (tch hv).mpr ((cut_new wb hN hs).mpr (.inl h1)), e1, e2⟩
      · obtain ⟨x1, d1, hd1, ex, rfl⟩ := S.full b hb _ _ hd
        have : x1 = a := S.inj _ _ (ic hd1).2.1 (ic hs).1 ex
        subst this
        obtain ⟨y1, z1, h1, e1, e2⟩ := rn hd1 h
        exact ⟨y1, z1, (tch hv).mpr ((cut_new wb hN hs).mpr (.inr ⟨d1, hd1, h1⟩)), e1, e2⟩
  · -- sharp sides
    have e0 : shpP (tchF (cutF (midF F N) F) u) ((allL (tchF (cutF (midF F N) F) u)).filter fun p => decide (p ∈ ((allL (cutF (midF F N) F)).filter fun p => decide (p ∈ T2 /\ InnerW (spokes (cutF (midF F N) F)) p)) /\ InnerW (spokes (tchF (cutF (midF F N) F) u)) p)) (pr v x) = true ↔ shpP (cutF (midF F N) F) ((allL (cutF (midF F N) F)).filter fun p => decide (p ∈ T2 /\ InnerW (spokes (cutF (midF F N) F)) p)) (pr v x) = true := by
      have := shpL_tch (F := cutF (midF F N) F) hv ((allL (cutF (midF F N) F)).filter fun p => decide (p ∈ T2 /\ InnerW (spokes (cutF (midF F N) F)) p))
      have h1 := shpL_iff (F := tchF (cutF (midF F N) F) u) (T := (allL (tchF (cutF (midF F N) F) u)).filter fun p => decide (p ∈ ((allL (cutF (midF F N) F)).filter fun p => decide (p ∈ T2 /\ InnerW (spokes (cutF (midF F N) F)) p)) /\ InnerW (spokes (tchF (cutF (midF F N) F) u)) p)) (v := v) (u := x)
      rw [this, shpL_iff] at h1
      rw [nbt hv] at h1 hx
      exact ⟨fun z => (h1.mpr ⟨hx, z⟩).2, fun z => (h1.mp ⟨hx, z⟩).2⟩
    rw [e0]
    have gT : (gNext Q g).T = (allL (cutF (gMid g) g.F)).filter fun p => decide (p ∈ gHalf g /\ InnerW (spokes (cutF (gMid g) g.F)) p) := rfl
    rw [gF, gT]
    have hx' : x ∈ nbL (cutF (midF F N) F) v := by rw [<- nbt hv]; exact hx
    rcases l3_four wb ht hu hv with h0 | ⟨a, b, c, hs, ha, hb, rfl⟩
    · have iv := l3_isc ht h0
      obtain ⟨x1, hx1, rfl⟩ := (nb_old wb hN iv).mp hx'
      have e1 := S.shp v h0 x1 hx1
      rw [old iv]
      obtain ⟨c, h | h⟩ := nbL_mem.mp hx1
      · rw [new h, shp_old wb hN hT h hT2 (.inl rfl), shp_old hg.wb hg.nest hg.tsub (S.map _ _ _ h) (fun p => gHalf_mem) (.inl rfl)]
        exact e1
      · have h2 := wb.r2 h
        rw [m.sym v x1, new h2, shp_old wb hN hT h2 hT2 (.inr rfl), shp_old hg.wb hg.nest hg.tsub (S.map _ _ _ h2) (fun p => gHalf_mem) (.inr rfl), pr_comm x1, pr_comm (φ x1)]
        exact e1
    · rw [new hs, shp_new wb hN hT hs hT2 hx']
      have c3 := ic hs
      have icc : IsC (cutF (midF F N) F) x := nb_isc hx'
      have up : ∀ {y}, IsC F y -> IsC (cutF (midF F N) F) y := fun h => (isc_cut wb).mpr (.inl h)
      have hxg : phiN g F N φ x ∈ nbL (cutF (gMid g) g.F) (gMid g (φ a) (φ b)) := by
        rw [<- new hs]
        obtain ⟨c', h | h⟩ := nbL_mem.mp hx'
        · exact nbL_mem.mpr ⟨_, .inl (map0 _ _ _ h)⟩
        · exact nbL_mem.mpr ⟨_, .inr (map0 _ _ _ h)⟩
      rw [shp_new hg.wb hg.nest hg.tsub (S.map _ _ _ hs) (fun p => gHalf_mem) hxg, S.shp a ha b (nbL_mem.mpr ⟨c, .inl hs⟩)]
      have q1 : phiN g F N φ x = φ a ↔ x = a := ⟨fun e => inj _ _ icc (up c3.1) (by rw [e, old c3.1]), fun e => by rw [e, old c3.1]⟩
      have q2 : phiN g F N φ x = φ b ↔ x = b := ⟨fun e => inj _ _ icc (up c3.2.1) (by rw [e, old c3.2.1]), fun e => by rw [e, old c3.2.1]⟩
      rw [q1, q2]
  · -- fast corners
    have iv : IsC (tchF (cutF (midF F N) F) u) v := l3_isc (self_tch umem) hv
    rw [List.mem_filter, decide_eq_true_eq, List.mem_filter, decide_eq_true_eq, isc_key hN2, isc_key hN1]
    have e : (IsC (tchF (cutF (midF F N) F) u) v /\ IsC (cutF (midF F N) F) v /\ v ∈ Q1) ↔ v ∈ Q1 := ⟨fun h => h.2.2, fun h => ⟨iv, sub iv, h⟩⟩
    rw [e]
    rcases l3_four wb ht hu hv with h0 | ⟨a, b, c, hs, ha, hb, rfl⟩
    · rw [old (l3_isc ht h0)]
      exact S.fast v h0
    · rw [new hs]
      constructor
      · intro h
        obtain ⟨⟨x, y, z⟩, h', e'⟩ := hQ1 _ h
        exact absurd e'.symm (m.new _ _ _ hs _ _ _ h')
      · intro h
        obtain ⟨⟨x, y, z⟩, h', e'⟩ := hQ _ h
        exact absurd e'.symm (mg.new _ _ _ (S.map _ _ _ hs) _ _ _ h')
  · -- weights
    show wNew F N T Q1 th w v = wNew g.F (nestG g.F) g.T Q (thG g.F) g.W (phiN g F N φ v)
    rcases isc_part wb hN ht hu hv with h0 | ⟨a, x, ha, hx, rfl⟩
    · have iv := l3_isc ht h0
      rw [old iv, wNew_old hN iv, wNew_old hg.nest (img iv)]
      exact S.csh ht h0
    · have hp : pr a x ∈ allL F /\ pr (φ a) (φ x) ∈ allL g.F /\ phiN g F N φ (midF F N a x) = gMid g (φ a) (φ x) := by
        obtain ⟨c, h | h⟩ := nbL_mem.mp hx
        · exact ⟨pr_all h, pr_all (S.map _ _ _ h), new h⟩
        · have h2 := wb.r2 h
          rw [m.sym a x, show gMid g (φ a) (φ x) = gMid g (φ x) (φ a) from mg.sym _ _, pr_comm a x, pr_comm (φ a)]
          exact ⟨pr_all h2, pr_all (S.map _ _ _ h2), new h2⟩
      rw [hp.2.2]
      show wNew F N T Q1 th w (numOf F N (pr a x)) = wNew g.F (nestG g.F) g.T Q (thG g.F) g.W (numOf g.F (nestG g.F) (pr (φ a) (φ x)))
      rw [wNew_new hp.1, wNew_new hp.2.1]
      exact S.ssh wb.nd hg.wb.nd hth ht ha hx
end
structure LabOk (g : GS) : Prop where
 inj : ∀ a b, IsC g.F a -> IsC g.F b -> g.L a = g.L b -> a = b
 side : ∀ a b c, (a, b, c) ∈ spokes g.F -> ∃ A B, A ≠ B /\ ∀ x, g.L b x = g.L a x + dlt B x - dlt A x
section
variable {g : GS} {nn : Nat} {Q : List Int}
theorem lab_old (hg : GOk g nn) {v : Int} (h : IsC g.F v) : (gNext Q g).L v = fun c => 2 * g.L v c := by
 obtain ⟨s, hs, rfl⟩ := h
 funext c
 show (if s.1 < fst1 (nestG g.F) then 2 * g.L s.1 c else _) = _
 rw [if_pos (fst1_gt hg.nest hs)]
theorem lab_new (hg : GOk g nn) {a b c : Int} (hs : (a, b, c) ∈ spokes g.F) : (gNext Q g).L (gMid g a b) = fun x => g.L a x + g.L b x := by
 have hp := pr_all hs
 have e : (allL g.F).getD (gMid g a b - fst1 (nestG g.F)).toNat (0, 0) = pr a b := num_get hp
 funext x
 show (if gMid g a b < fst1 (nestG g.F) then _ else g.L ((allL g.F).getD (gMid g a b - fst1 (nestG g.F)).toNat (0, 0)).1 x + g.L ((allL g.F).getD (gMid g a b - fst1 (nestG g.F)).toNat (0, 0)).2 x) = _
 rw [if_neg (by show ¬ numOf g.F (nestG g.F) (pr a b) < _; unfold numOf; omega), e]
 rcases pr_or a b with z | z <;> rw [z]
 show g.L b x + g.L a x = _
 omega
theorem LabOk.next (h : LabOk g) (hg : GOk g nn) (Q : List Int) : LabOk (gNext Q g) := by
 have ic : ∀ {a b c}, (a, b, c) ∈ spokes g.F -> IsC g.F a /\ IsC g.F b /\ IsC g.F c := fun h => ⟨⟨_, h, rfl⟩, ⟨_, spokes_rot _ h, rfl⟩, ⟨_, spokes_rot _ (spokes_rot _ h), rfl⟩⟩
 have on : ∀ {v a b c : Int}, IsC g.F v -> (a, b, c) ∈ spokes g.F -> (gNext Q g).L v = (gNext Q g).L (gMid g a b) -> False := fun {v a b c} hv hs e => by
  rw [lab_old hg hv, lab_new hg hs] at e
  obtain ⟨A, B, ab, hl⟩ := h.side _ _ _ hs
  have e1 : 2 * g.L v A = g.L a A + g.L b A := congrFun e A
  have e2 := hl A
  have d1 : dlt A A = 1 := if_pos rfl
  have d2 : dlt B A = 0 := if_neg ab
  omega
 refine ⟨fun a b ha hb e => ?_, fun x y z hs0 => ?_⟩
 ·rcases (isc_cut hg.wb).mp ha with ha | ⟨p, hp, rfl⟩ <;> rcases (isc_cut hg.wb).mp hb with hb | ⟨q, hq, rfl⟩
  ·rw [lab_old hg ha, lab_old hg hb] at e
   refine h.inj a b ha hb (funext fun c => ?_)
   have : 2 * g.L a c = 2 * g.L b c := congrFun e c
   omega
  ·obtain ⟨⟨x, y, z⟩, hs, rfl⟩ := allL_mem.mp hq
   exact (on ha hs e).elim
  ·obtain ⟨⟨x, y, z⟩, hs, rfl⟩ := allL_mem.mp hp
   exact (on hb hs e.symm).elim
  ·obtain ⟨⟨x, y, z⟩, hs, rfl⟩ := allL_mem.mp hp
   obtain ⟨⟨x', y', z'⟩, hs', rfl⟩ := allL_mem.mp hq
   have e : (gNext Q g).L (gMid g x y) = (gNext Q g).L (gMid g x' y') := e
   rw [lab_new hg hs, lab_new hg hs'] at e
   obtain ⟨A, B, ab, hl⟩ := h.side _ _ _ hs
   obtain ⟨A', B', ab', hl'⟩ := h.side _ _ _ hs'
   have e : ∀ c, g.L x c + g.L y c = g.L x' c + g.L y' c := fun c => congrFun e c
   have d1 : dlt A A = 1 := if_pos rfl
   have d2 : dlt B B = 1 := if_pos rfl
   have d3 : dlt B A = 0 := if_neg ab
   have d4 : dlt A B = 0 := if_neg fun z => ab z.symm
   have pa : A = A' \/ A = B' := by
    have a1 := e A
    have a2 := hl A
    have a3 := hl' A
    unfold dlt at a2 a3 d1 d3
    split at a3 <;> split at a3 <;> first | omega | (left; assumption) | (right; assumption)
   have pb : B = A' \/ B = B' := by
    have a1 := e B
    have a2 := hl B
    have a3 := hl' B
    unfold dlt at a2 a3 d2 d4
    split at a3 <;> split at a3 <;> first | omega | (left; assumption) | (right; assumption)
   have c1 := ic hs
   have c2 := ic hs'
   rcases pa with rfl | rfl
   ·rcases pb with rfl | rfl
    ·exact absurd rfl ab
    ·have e1 : x = x' := h.inj _ _ c1.1 c2.1 (funext fun c => by have := e c; have := hl c; have := hl' c; omega)
     have e2 : y = y' := h.inj _ _ c1.2.1 c2.2.1 (funext fun c => by have := e c; have := hl c; have := hl' c; omega)
     rw [e1, e2]
   ·rcases pb with rfl | rfl
    ·have e1 : x = y' := h.inj _ _ c1.1 c2.2.1 (funext fun c => by have := e c; have := hl c; have := hl' c; omega)
     have e2 : y = x' := h.inj _ _ c1.2.1 c2.1 (funext fun c => by have := e c; have := hl c; have := hl' c; omega)
     show gMid g x y = gMid g x' y'
     rw [e1, e2]
     exact (num_mid hg.nest).sym _ _
    ·exact absurd rfl ab
 ·have ct := cut_mem.mp hs0
  clear hs0
  generalize e : (x, y, z) = s at ct
  cases ct with
  | a a b c hs =>
   simp only [Prod.mk.injEq] at e
   obtain ⟨rfl, rfl, rfl⟩ := e
   obtain ⟨A, B, ab, hl⟩ := h.side _ _ _ hs
   refine ⟨A, B, ab, fun c => ?_⟩
   rw [lab_old hg (ic hs).1, lab_new hg hs]
   have := hl c
   dsimp only
   omega
  | b a b c hs =>
   simp only [Prod.mk.injEq] at e
   obtain ⟨rfl, rfl, rfl⟩ := e
   obtain ⟨A, B, ab, hl⟩ := h.side _ _ _ (hg.wb.r1 hs)
   refine ⟨A, B, ab, fun x => ?_⟩
   rw [lab_new hg (hg.wb.r2 hs), lab_new hg hs]
   have := hl x
   dsimp only
   omega
  | c a b c hs =>
   simp only [Prod.mk.injEq] at e
   obtain ⟨rfl, rfl, rfl⟩ := e
   obtain ⟨A, B, ab, hl⟩ := h.side _ _ _ (hg.wb.r2 hs)
   refine ⟨A, B, ab, fun x => ?_⟩
   rw [lab_old hg (ic hs).1, lab_new hg (hg.wb.r2 hs)]
   have := hl x
   dsimp only
   omega
  | d a b c hs =>
   simp only [Prod.mk.injEq] at e
   obtain ⟨rfl, rfl, rfl⟩ := e
   obtain ⟨A, B, ab, hl⟩ := h.side _ _ _ (hg.wb.r2 hs)
   refine ⟨B, A, fun z => ab z.symm, fun x => ?_⟩
   rw [lab_new hg (hg.wb.r1 hs), lab_new hg hs]
   have := hl x
   dsimp only
   omega
theorem lab_start (F : List Tri) (T : List IP) (wb : WB (spokes F)) : LabOk (gStart F T) := by
 refine ⟨fun a b _ _ e => ?_, fun a b c hs => ⟨a, b, (wb.dis hs).1, fun x => ?_⟩⟩
 ·have : dlt a a = dlt b a := congrFun e a
  unfold dlt at this
  split at this <;> split at this <;> first | assumption | omega
 ·show dlt b x = dlt a x + dlt b x - dlt a x
  omega
theorem LabOk.seq (h : LabOk g) (hg : GOk g nn) (Q : List Int) : ∀ k, LabOk (gSeq Q g k)
 | 0 => h
 | k + 1 => by
  obtain ⟨nk, hk⟩ := hg.seq Q k
  exact (LabOk.seq h hg Q k).next hk Q
end
theorem pth_get : ∀ (l : List Int) (j : Nat) (h : j + 1 < l.length), (l[j], l[j + 1]) ∈ pth l
 | [], j, h => by simp at h
 | [a], j, h => by simp at h
 | a :: b :: t, 0, _ => by simp [pth]
 | a :: b :: t, j + 1, h => by
  have := pth_get (b :: t) j (by simpa using h)
  simp only [pth]
  exact List.mem_cons_of_mem _ this
theorem row_one {L : List (Int × Int)} {x : Int} {q q' : List Int} (h : Row L (x :: q) true) (h' : Row L (x :: q') true) : q = q' := by
 have fn := h.fst_nd
 have one : ∀ {a b c : Int}, (a, b) ∈ L -> (a, c) ∈ L -> b = c := fun {a b c} h1 h2 => by
  have e1 := (nxt_mem fn).mpr h1
  have e2 := (nxt_mem fn).mpr h2
  rw [e1] at e2
  exact Option.some.inj e2
 have l1 := h.pm.length_eq
 have l2 := h'.pm.length_eq
 rw [stp_cl, pth_len] at l1 l2
 simp only [List.length_append, List.length_cons, List.length_nil] at l1 l2
 have hl : q.length = q'.length := by omega
 have get : ∀ j, j < q.length + 1 -> (x :: q)[j]? = (x :: q')[j]? := by
  intro j
  induction j with
  | zero => intro _; rfl
  | succ j ih =>
   intro hj
   have e0 := ih (by omega)
   have ha : j < (x :: q).length := by simp; omega
   have hb : j < (x :: q').length := by simp; omega
   have ha' : j + 1 < (x :: q).length := by simpa using hj
   have hb' : j + 1 < (x :: q').length := by simp; omega
   rw [List.getElem?_eq_getElem ha, List.getElem?_eq_getElem hb] at e0
   have e0 := Option.some.inj e0
   rw [List.getElem?_eq_getElem ha', List.getElem?_eq_getElem hb']
   congr 1
   have m1 : ((x :: q)[j], (x :: q)[j + 1]) ∈ L := h.pm.mem_iff.mpr (by
    rw [stp_cl]
    have := pth_get (x :: q ++ [x]) j (by simp; omega)
    rw [List.getElem_append_left ha, List.getElem_append_left ha'] at this
    exact this)
   have m2 : ((x :: q')[j], (x :: q')[j + 1]) ∈ L := h'.pm.mem_iff.mpr (by
    rw [stp_cl]
    have := pth_get (x :: q' ++ [x]) j (by simp; omega)
    rw [List.getElem_append_left hb, List.getElem_append_left hb'] at this
    exact this)
   rw [<- e0] at m2
   exact one m1 m2
 have : x :: q = x :: q' := by
  refine List.ext_getElem? fun j => ?_
  by_cases hj : j < q.length + 1
  ·exact get j hj
  ·rw [List.getElem?_eq_none (by simp; omega), List.getElem?_eq_none (by simp; omega)]
 exact (List.cons.inj this).2
theorem kind_all (q : Bool) (m : Nat) : kindS q m = "fast" \/ kindS q m = "row" \/ kindS q m = "end" \/ kindS q m = "smooth" := by
 unfold kindS
 split
 ·exact .inl rfl
 ·split
  ·exact .inr (.inr (.inr rfl))
  ·split
   ·exact .inr (.inr (.inl rfl))
   ·exact .inr (.inl rfl)
theorem lsh_one {F : List Tri} {T : List IP} {Q : List Int} {v : Int} {P P' : List IP} {u u' : Nat} (h : IsLsh F T Q v P u) (h' : IsLsh F T Q v P' u') : P = P' /\ u = u' := by
 obtain ⟨a1, a2, a3, a4, a5⟩ := h
 obtain ⟨b1, b2, b3, b4, b5⟩ := h'
 rcases kind_all (decide (v ∈ Q)) (shpL F T v).length with k | k | k | k
 ·obtain ⟨rfl, rfl⟩ := a1 k
  obtain ⟨rfl, rfl⟩ := b1 k
  exact ⟨rfl, rfl⟩
 ·obtain ⟨rfl, rfl⟩ := a2 k
  obtain ⟨rfl, rfl⟩ := b2 k
  exact ⟨rfl, rfl⟩
 ·obtain ⟨e, R, e1, r1, rfl, rfl⟩ := a3 k
  obtain ⟨e', R', e2, r2, rfl, rfl⟩ := b3 k
  have : e = e' := by
   rw [e1] at e2
   exact (List.cons.inj e2).1
  subst this
  rw [row_one r1 r2]
  exact ⟨rfl, rfl⟩
 ·by_cases k3 : (nbL F v).length = 3
  ·obtain ⟨rfl, rfl⟩ := a4 k k3
   obtain ⟨rfl, rfl⟩ := b4 k k3
   exact ⟨rfl, rfl⟩
  ·obtain ⟨rfl, rfl⟩ := a5 k k3
   obtain ⟨rfl, rfl⟩ := b5 k k3
   exact ⟨rfl, rfl⟩
def LimG (g : GS) (Q : List Int) (x : Int) (W : Wt0) : Prop := ∃ P u, IsLsh g.F g.T Q x P u /\ W = blendF (P.map fun p => (p.1, g.W p.2)) u
theorem LimG.one {g : GS} {Q : List Int} {x : Int} {W W' : Wt0} (h : LimG g Q x W) (h' : LimG g Q x W') : W = W' := by
 obtain ⟨P, u, h1, rfl⟩ := h
 obtain ⟨P', u', h2, rfl⟩ := h'
 obtain ⟨rfl, rfl⟩ := lsh_one h1 h2
 rfl
def OnSharp (F : List Tri) (T : List IP) (P : Int -> Prop) : Prop := ∃ A B C, (A, B, C) ∈ spokes F /\ shpP F T (pr A B) = true /\ ∀ x, x ≠ A -> x ≠ B -> P x
theorem lab_nonneg {g : GS} {nn : Nat} (hg : GOk g nn) (h : ∀ v, IsC g.F v -> ∀ x, 0 ≤ g.L v x) (Q : List Int) : ∀ v, IsC (gNext Q g).F v -> ∀ x, 0 ≤ (gNext Q g).L v x := by
 intro v hv x
 rcases (isc_cut hg.wb).mp hv with hv | ⟨p, hp, rfl⟩
 ·rw [lab_old hg hv]
  have := h v hv x
  show 0 ≤ 2 * g.L v x
  omega
 ·obtain ⟨⟨a, b, c⟩, hs, rfl⟩ := allL_mem.mp hp
  show 0 ≤ (gNext Q g).L (gMid g a b) x
  rw [lab_new hg hs]
  have h1 := h a ⟨_, hs, rfl⟩ x
  have h2 := h b ⟨_, spokes_rot _ hs, rfl⟩ x
  show 0 ≤ g.L a x + g.L b x
  omega
structure ShOk (F : List Tri) (T : List IP) (g : GS) : Prop where
 nn : ∀ v, IsC g.F v -> ∀ x, 0 ≤ g.L v x
 sh : ∀ a b c, (a, b, c) ∈ spokes g.F -> (shpP g.F g.T (pr a b) = true ↔ OnSharp F T fun x => g.L a x = 0 /\ g.L b x = 0)
theorem sh_start {F : List Tri} {T : List IP} (wb : WB (spokes F)) : ShOk F T (gStart F T) := by
 refine ⟨fun v _ x => ?_, fun a b c hs => ⟨fun h => ⟨a, b, c, hs, h, fun x h1 h2 => ⟨if_neg h1, if_neg h2⟩⟩, ?_⟩⟩
 ·show 0 ≤ dlt v x
  unfold dlt
  split <;> omega
 ·rintro ⟨A, B, C, hA, hsh, hx⟩
  have ab := (wb.dis hs).1
  have ina : a = A \/ a = B := by
   by_cases h1 : a = A
   ·exact .inl h1
   ·by_cases h2 : a = B
    ·exact .inr h2
    ·have : dlt a a = 0 := (hx a h1 h2).1
     unfold dlt at this
     rw [if_pos rfl] at this
     omega
  have inb : b = A \/ b = B := by
   by_cases h1 : b = A
   ·exact .inl h1
   ·by_cases h2 : b = B
    ·exact .inr h2
    ·have : dlt b b = 0 := (hx b h1 h2).2
     unfold dlt at this
     rw [if_pos rfl] at this
     omega
  show shpP F T (pr a b) = true
  rcases ina with rfl | rfl <;> rcases inb with rfl | rfl
  ·exact absurd rfl ab
  ·exact hsh
  ·rw [pr_comm]; exact hsh
  ·exact absurd rfl ab
theorem ShOk.next {F : List Tri} {T : List IP} {g : GS} {nn : Nat} (h : ShOk F T g) (hg : GOk g nn) (hl : LabOk g) (Q : List Int) : ShOk F T (gNext Q g) := by
 have ic : ∀ {a b c}, (a, b, c) ∈ spokes g.F -> IsC g.F a /\ IsC g.F b /\ IsC g.F c := fun h => ⟨⟨_, h, rfl⟩, ⟨_, spokes_rot _ h, rfl⟩, ⟨_, spokes_rot _ (spokes_rot _ h), rfl⟩⟩
 have m := num_mid hg.nest
 have gF : (gNext Q g).F = cutF (gMid g) g.F := rfl
 have gT : (gNext Q g).T = (allL (cutF (gMid g) g.F)).filter fun p => decide (p ∈ gHalf g /\ InnerW (spokes (cutF (gMid g) g.F)) p) := rfl
 have os : ∀ {P P' : Int -> Prop}, (∀ x, P x ↔ P' x) -> (OnSharp F T P ↔ OnSharp F T P') := fun {P P'} e => by
  constructor
  ·rintro ⟨A, B, C, h1, h2, h3⟩
   exact ⟨A, B, C, h1, h2, fun x a b => (e x).mp (h3 x a b)⟩
  ·rintro ⟨A, B, C, h1, h2, h3⟩
   exact ⟨A, B, C, h1, h2, fun x a b => (e x).mpr (h3 x a b)⟩
 -- three corners of a face lie on no one side
 have three : ∀ {a b c}, (a, b, c) ∈ spokes g.F -> ∀ {P : Int -> Prop}, (∀ x, P x -> g.L a x = 0 /\ g.L b x = 0 /\ g.L c x = 0) -> ¬ OnSharp F T P := by
  rintro a b c hs P hP ⟨A, B, C, _, _, hx⟩
  have z : ∀ x, x ≠ A -> x ≠ B -> g.L a x = 0 /\ g.L b x = 0 /\ g.L c x = 0 := fun x h1 h2 => hP x (hx x h1 h2)
  obtain ⟨A1, B1, n1, e1⟩ := hl.side _ _ _ hs
  obtain ⟨A2, B2, n2, e2⟩ := hl.side _ _ _ (hg.wb.r1 hs)
  obtain ⟨A3, B3, n3, e3⟩ := hl.side _ _ _ (hg.wb.r2 hs)
  have inn : ∀ {p q : Int} {A' B' : Int}, A' ≠ B' -> (∀ x, g.L q x = g.L p x + dlt B' x - dlt A' x) -> (∀ x, x ≠ A -> x ≠ B -> g.L p x = 0 /\ g.L q x = 0) -> (A' = A \/ A' = B) /\ (B' = A \/ B' = B) := fun {p q A' B'} ne e z => by
   constructor
   ·by_cases h1 : A' = A
    ·exact .inl h1
    ·by_cases h2 : A' = B
     ·exact .inr h2
     ·have := z A' h1 h2
      have d := e A'
      unfold dlt at d
      rw [if_pos rfl, if_neg ne] at d
      omega
   ·by_cases h1 : B' = A
    ·exact .inl h1
    ·by_cases h2 : B' = B
     ·exact .inr h2
     ·have := z B' h1 h2
      have d := e B'
      unfold dlt at d
      rw [if_pos rfl, if_neg (Ne.symm ne)] at d
      omega
  have i1 := inn n1 e1 fun x h1 h2 => ⟨(z x h1 h2).1, (z x h1 h2).2.1⟩
  have i2 := inn n2 e2 fun x h1 h2 => ⟨(z x h1 h2).2.1, (z x h1 h2).2.2⟩
  have i3 := inn n3 e3 fun x h1 h2 => ⟨(z x h1 h2).2.2, (z x h1 h2).1⟩
  -- one direction thrice comes back never
  have a1 := e1 A
  have a2 := e2 A
  have a3 := e3 A
  unfold dlt at a1 a2 a3
  rcases i1 with ⟨p1, p2⟩
  rcases i2 with ⟨p3, p4⟩
  rcases i3 with ⟨p5, p6⟩
  by_cases AB : A = B
  ·subst AB
   rcases p1 with p1 | p1 <;> rcases p2 with p2 | p2 <;> exact n1 (p1.trans p2.symm)
  ·have u : ∀ {A' B' : Int}, A' ≠ B' -> (A' = A \/ A' = B) -> (B' = A \/ B' = B) -> ((if A = B' then (1 : Int) else 0) - (if A = A' then 1 else 0) = 1 \/ (if A = B' then (1 : Int) else 0) - (if A = A' then 1 else 0) = -1) := fun {A' B'} ne q1 q2 => by
    rcases q1 with rfl | rfl <;> rcases q2 with rfl | rfl
    ·exact absurd rfl ne
    ·right; rw [if_neg AB, if_pos rfl]; rfl
    ·left; rw [if_pos rfl, if_neg AB]; rfl
    ·exact absurd rfl ne
   have v1 := u n1 p1 p2
   have v2 := u n2 p3 p4
   have v3 := u n3 p5 p6
   omega
 have nbr : ∀ {x y z}, (x, y, z) ∈ spokes (cutF (gMid g) g.F) -> y ∈ nbL (cutF (gMid g) g.F) x := fun h => nbL_mem.mpr ⟨_, .inl h⟩
 refine ⟨lab_nonneg hg h.nn Q, fun x y z hs0 => ?_⟩
 have hs0 : (x, y, z) ∈ spokes (cutF (gMid g) g.F) := hs0
 have nb0 := nbr hs0
 rw [gF, gT]
 have ct := cut_mem.mp hs0
 generalize e : (x, y, z) = s at ct
 cases ct with
 | a a b c hs =>
  simp only [Prod.mk.injEq] at e
  obtain ⟨rfl, rfl, rfl⟩ := e
  rw [shp_old hg.wb hg.nest hg.tsub hs (fun p => gHalf_mem) (.inl rfl), h.sh _ _ _ hs, lab_old hg (ic hs).1, lab_new hg hs]
  refine os fun v => ?_
  have n1 := h.nn _ (ic hs).1 v
  have n2 := h.nn _ (ic hs).2.1 v
  dsimp only
  constructor <;> intro q <;> omega
 | b a b c hs =>
  simp only [Prod.mk.injEq] at e
  obtain ⟨rfl, rfl, rfl⟩ := e
  rw [shp_new hg.wb hg.nest hg.tsub hs (fun p => gHalf_mem) nb0]
  refine ⟨fun q => ?_, fun q => absurd q (three hs fun v hv => ?_)⟩
  ·rcases q.2 with q | q
   ·exact absurd q (m.new _ _ _ (hg.wb.r2 hs) _ _ _ hs)
   ·exact absurd q (m.new _ _ _ (hg.wb.r2 hs) _ _ _ (hg.wb.r1 hs))
  ·rw [lab_new hg hs, lab_new hg (hg.wb.r2 hs)] at hv
   have n1 := h.nn _ (ic hs).1 v
   have n2 := h.nn _ (ic hs).2.1 v
   have n3 := h.nn _ (ic hs).2.2 v
   dsimp only at hv
   omega
 | c a b c hs =>
  simp only [Prod.mk.injEq] at e
  obtain ⟨rfl, rfl, rfl⟩ := e
  have h2 := hg.wb.r2 hs
  rw [pr_comm, shp_old hg.wb hg.nest hg.tsub h2 (fun p => gHalf_mem) (.inr rfl), h.sh _ _ _ h2, lab_old hg (ic hs).1, lab_new hg h2]
  refine os fun v => ?_
  have n1 := h.nn _ (ic h2).1 v
  have n2 := h.nn _ (ic h2).2.1 v
  dsimp only
  constructor <;> intro q <;> omega
 | d a b c hs =>
  simp only [Prod.mk.injEq] at e
  obtain ⟨rfl, rfl, rfl⟩ := e
  rw [shp_new hg.wb hg.nest hg.tsub hs (fun p => gHalf_mem) nb0]
  refine ⟨fun q => ?_, fun q => absurd q (three hs fun v hv => ?_)⟩
  ·rcases q.2 with q | q
   ·exact absurd q (m.new _ _ _ (hg.wb.r1 hs) _ _ _ hs)
   ·exact absurd q (m.new _ _ _ (hg.wb.r1 hs) _ _ _ (hg.wb.r1 hs))
  ·rw [lab_new hg hs, lab_new hg (hg.wb.r1 hs)] at hv
   have n1 := h.nn _ (ic hs).1 v
   have n2 := h.nn _ (ic hs).2.1 v
   have n3 := h.nn _ (ic hs).2.2 v
   dsimp only at hv
   omega
theorem ShOk.seq {F : List Tri} {T : List IP} {n : Nat} (hg : GOk (gStart F T) n) (Q : List Int) : ∀ k, ShOk F T (gSeq Q (gStart F T) k)
 | 0 => sh_start hg.wb
 | k + 1 => by
  obtain ⟨nk, hk⟩ := hg.seq Q k
  exact (ShOk.seq hg Q k).next hk ((lab_start F T hg.wb).seq hg Q k) Q
section
variable {ρ : ME} {c : Er} {Q : ME -> Prop} {a b : ME -> MR} {i : Nat}
theorem es_set (h : ER (a ρ) c Q) : ES (mSet i a ρ) c Q := by
 obtain ⟨ρ1, e, q⟩ := h
 exact ⟨ρ1, by unfold mSet; rw [e], q⟩
end
theorem NetSt.next {W0 : D} {n0 L k : Nat} {F : List Tri} {N : NC} {T : List IP} {Q : List Int} {Rw : D} {w : Int -> Wt0} {nn : Nat} (st : NetSt W0 n0 L k F N T Q Rw w nn) (hL : L * 4 ^ k ≤ 75) (hk : k ≤ 3) {th : IP -> Int} (hth : ∀ w, w ∈ (spokes F).map way -> (w.1, w.2, th w) ∈ spokes F) :
    ∃ (N' : NC) (T2 : List IP), (∀ p, p ∈ T2 ↔ ∃ q ∈ T, p = (q.1, numOf F N q) \/ p = (q.2, numOf F N q)) /\
      NetSt W0 n0 L (k + 1) (cutF (midF F N) F) N' ((allL (cutF (midF F N) F)).filter fun p => decide (p ∈ T2 /\ InnerW (spokes (cutF (midF F N) F)) p)) ((ckeys N').filter fun v => decide (v ∈ Q)) (rowD (nKeys F N) (wNew F N T Q th w)) (wNew F N T Q th w) (nn + (allL F).length) := by
  have wp : WPt F (24 + 900 * (k : Int)) := ⟨st.wb, st.nb, by rw [st.fl]; exact hL, st.rng, st.ne⟩
  obtain ⟨prt', rg', wb', nb', ne'⟩ := wp.cut (by omega) st.nest
  have M0 : 0 < 6720 ^ k := Nat.pow_pos (by decide)
  obtain ⟨sN, ρN, eN, hsN⟩ := cut_web_wrX wp (by omega) st.nest st.tsub st.tl (Q := Q) hth st.rw M0 (pow_ok hk)
  obtain ⟨N', T2, hN', m2, R', rfl⟩ := hsN
  have fl' : (cutF (midF F N) F).length = L * 4 ^ (k + 1) := by
    rw [cutF_len, st.fl, Nat.pow_succ, Nat.mul_left_comm, Nat.mul_comm 4]
  have rel' : netM W0 (loneD (up n0)) (k + 1) = (webD (cutF (midF F N) F) N' ((allL (cutF (midF F N) F)).filter fun p => decide (p ∈ T2 /\ InnerW (spokes (cutF (midF F N) F)) p)) ((ckeys N').filter fun v => decide (v ∈ Q)), rowD (nKeys F N) (wNew F N T Q th w)) := by
    show nextM (netM W0 (loneD (up n0)) k).1 (netM W0 (loneD (up n0)) k).2 = _
    rw [st.rel]
    unfold nextM
    rw [eN]
  have kl : (nKeys F N).length = nn + (allL F).length := by
    unfold nKeys
    rw [List.length_append, List.length_map, (PySem.W.sortI_perm _).length_eq]
    obtain ⟨k1, k2, k3⟩ := st.nest.ck
    have : (ckeys N).Perm (up nn) := (List.perm_ext_iff_of_nodup k2 (up_nodup nn)).mpr fun c => by
      rw [isc_key st.nest, st.cn, up_mem]
    rw [this.length_eq, up_len]
  have cn' := isc_num st.wb st.nest st.ne st.cn
  have gl' : gLen (rowD (nKeys F N) (wNew F N T Q th w)) = some (.v (.int ((nn + (allL F).length : Nat) : Int))) := by
    unfold rowD
    show some (Mp.Slot.v (.int (((nKeys F N).map (Sum.inl : Int -> Key)).length : Nat))) = _
    rw [List.length_map, kl]
  have sup' : ∀ c, IsC (cutF (midF F N) F) c -> SupW (fun a => 0 ≤ a /\ a < (n0 : Int)) (wNew F N T Q th w c) := fun c hc => by
    rcases (isc_cut st.wb).mp hc with hc | ⟨p, hp, rfl⟩
    · rw [wNew_old st.nest hc]
      exact csh_sup wp hc st.rw.ok M0 (pow_ok hk) st.sup
    · rw [wNew_new hp]
      exact ssh_sup hp hth st.rw.ok M0 (pow_ok hk) st.sup
  have row' : ∀ v, IsC (cutF (midF F N) F) v -> ∃ r cl, Row (lnk v (spokes (cutF (midF F N) F))) r cl := fun v hv => rows_cut st.wb st.nest st.row hv
  refine ⟨N', T2, m2, ⟨wb', nb', fl', fun t ht => by have := rg' t ht; omega, ne', hN', fun p hp => (List.mem_filter.mp hp).1, Nat.le_trans (List.length_filter_le _ _) (allL_900 (by rw [fl', Nat.pow_succ, <- Nat.mul_assoc]; omega)), ?_, noX_rowD (nKeys F N) (wNew F N T Q th w), cn', gl', sup', row', fun v hv => (isc_key hN').mp (List.mem_filter.mp hv).1, rel'⟩⟩
  rw [Nat.pow_succ, Nat.mul_comm]; exact R'
structure Tie (g : GS) (Q : List Int) (F : List Tri) (T : List IP) (Q1 : List Int) (w : Int -> Wt0) : Prop where
 f : F = g.F
 t : ∀ p, p ∈ T ↔ p ∈ g.T
 q : ∀ v, v ∈ Q1 ↔ v ∈ Q
 w : ∀ c, IsC F c -> w c = g.W c
theorem shpP_iff {F : List Tri} {T T' : List IP} (h : ∀ p, p ∈ T ↔ p ∈ T') (p : IP) : shpP F T p = shpP F T' p := by
 unfold shpP
 rw [decide_eq_decide.mpr (h p)]
section
variable {g : GS} {Q : List Int} {F : List Tri} {T : List IP} {Q1 : List Int} {w : Int -> Wt0}
theorem Tie.sim (h : Tie g Q F T Q1 w) (t : Tri) : Sim g Q F T Q1 w t id := by
 obtain ⟨rfl, ht, hq, hw⟩ := h
 exact ⟨fun a b _ _ e => e, fun a b c h => h, fun v _ y z h => ⟨y, z, h, rfl, rfl⟩, fun v _ u _ => by rw [shpP_iff ht]; exact Iff.rfl, fun v _ => hq v, hw⟩
theorem isc_face {F : List Tri} {v : Int} (h : IsC F v) : ∃ t ∈ F, v ∈ l3 t := by
 obtain ⟨s, hs, rfl⟩ := h
 obtain ⟨u, hu, hsu⟩ := List.mem_flatMap.mp hs
 refine ⟨u, hu, ?_⟩
 rcases mem_spk.mp hsu with rfl | rfl | rfl <;> simp [l3, rt]
theorem Tie.next (h : Tie g Q F T Q1 w) (wb : WB (spokes F)) {N : NC} (hN : NestOk (spokes F) N) (hQ1 : ∀ v ∈ Q1, IsC F v) {N' : NC} (hN' : NestOk (spokes (cutF (midF F N) F)) N') {T2 : List IP} (hT2 : ∀ p, p ∈ T2 ↔ ∃ q ∈ T, p = (q.1, numOf F N q) \/ p = (q.2, numOf F N q)) {th : IP -> Int} (hth : ∀ w, w ∈ (spokes F).map way -> (w.1, w.2, th w) ∈ spokes F) :
    Tie (gNext Q g) Q (cutF (midF F N) F) ((allL (cutF (midF F N) F)).filter fun p => decide (p ∈ T2 /\ InnerW (spokes (cutF (midF F N) F)) p)) ((ckeys N').filter fun v => decide (v ∈ Q1)) (wNew F N T Q1 th w) := by
  have sim := h.sim
  obtain ⟨rfl, ht, hq, hw⟩ := h
  have hG := nestG_ok wb.nd
  have em : midF g.F N = gMid g := midF_same hN hG
  have en : numOf g.F N = numOf g.F (nestG g.F) := numOf_same hN hG
  refine ⟨by rw [em]; rfl, fun p => ?_, fun v => ?_, fun c hc => ?_⟩
  · show _ ↔ p ∈ (allL (cutF (gMid g) g.F)).filter fun p => decide (p ∈ gHalf g /\ InnerW (spokes (cutF (gMid g) g.F)) p)
    rw [em, List.mem_filter, List.mem_filter, decide_eq_true_eq, decide_eq_true_eq, hT2, gHalf_mem, en]
    have : (∃ q ∈ T, p = (q.1, numOf g.F (nestG g.F) q) \/ p = (q.2, numOf g.F (nestG g.F) q)) ↔ ∃ q ∈ g.T, p = (q.1, numOf g.F (nestG g.F) q) \/ p = (q.2, numOf g.F (nestG g.F) q) := ⟨fun ⟨q, a, b⟩ => ⟨q, (ht q).mp a, b⟩, fun ⟨q, a, b⟩ => ⟨q, (ht q).mpr a, b⟩⟩
    rw [this]
  · rw [List.mem_filter, isc_key hN', decide_eq_true_eq, hq]
    exact ⟨fun z => z.2, fun z => ⟨(isc_cut wb).mpr (.inl (hQ1 v ((hq v).mpr z))), z⟩⟩
  · show _ = wNew g.F (nestG g.F) g.T Q (thG g.F) g.W c
    rcases (isc_cut wb).mp hc with hc | ⟨p, hp, rfl⟩
    · obtain ⟨t, ht', hv⟩ := isc_face hc
      rw [wNew_old hN hc, wNew_old hG hc]
      exact (sim t).csh ht' hv
    · rw [wNew_new hp, en, wNew_new hp]
      obtain ⟨s, hs, rfl⟩ := allL_mem.mp hp
      obtain ⟨t, ht', hv⟩ := isc_face ⟨s, hs, rfl⟩
      exact (sim t).ssh wb.nd wb.nd hth ht' hv (nbL_mem.mpr ⟨s.2.2, .inl hs⟩)
end
end Ck
namespace Cg
structure RowL (L : List (Int × Int)) (r : List Int) (cl : Bool) : Prop where
 nd : r.Nodup
 pm : L.Perm (stp r cl)
 lo : 2 ≤ r.length
 hi : r.length ≤ 24
 c3 : cl = true -> 2 ≤ r.length
theorem RowL.perm {L L' : List (Int × Int)} {r : List Int} {cl : Bool} (h : RowL L r cl) (p : L'.Perm L) : RowL L' r cl := ⟨h.nd, p.trans h.pm, h.lo, h.hi, h.c3⟩
theorem RowL.rot {L : List (Int × Int)} {x : Int} {r : List Int} (h : RowL L (x :: r) true) : RowL L (r ++ [x]) true := by
 have hr : r ≠ [] := fun e => by have := h.lo; rw [e] at this; simp at this
 refine ⟨?_, h.pm.trans (stp_rot x r hr).symm, ?_, ?_, fun _ => ?_⟩
 ·have := h.nd
  rw [List.nodup_cons] at this
  rw [List.nodup_append]
  exact ⟨this.2, by simp, fun a ha b hb e => this.1 (by rw [<- List.mem_singleton.mp hb, <- e]; exact ha)⟩
 ·have := h.lo; simp at this ⊢; omega
 ·have := h.hi; simp at this ⊢; omega
 ·have := h.c3 rfl; simp at this ⊢; omega
theorem RowL.rotTo {L : List (Int × Int)} {x : Int} {q : List Int} : ∀ (p : List Int), RowL L (p ++ x :: q) true -> RowL L (x :: q ++ p) true
 | [], h => by simpa using h
 | a :: p, h => by
  have h1 := RowL.rot (r := p ++ x :: q) h
  have h2 := RowL.rotTo (q := q ++ [a]) p (by simpa using h1)
  simpa using h2
theorem RowL.at {L : List (Int × Int)} {r : List Int} {cl : Bool} {x y : Int} (h : RowL L r cl) (m : (x, y) ∈ L) : (cl = false /\ ∃ p q, r = p ++ x :: y :: q) \/ (cl = true /\ ∃ q, RowL L (x :: y :: q) true /\ (x :: y :: q).length = r.length) := by
 have m' := h.pm.mem_iff.mp m
 cases cl with
 | false =>
  rw [stp_op] at m'
  exact .inl ⟨rfl, pth_mem m'⟩
 | true =>
  refine .inr ⟨rfl, ?_⟩
  have hx : x ∈ r := by
   have : x ∈ (stp r true).map (·.1) := List.mem_map.mpr ⟨_, m', rfl⟩
   unfold stp at this
   rw [pth_fst] at this
   have := List.dropLast_subset _ this
   unfold wlk at this
   simp only [if_pos] at this
   rcases List.mem_append.mp this with z | z
   ·exact z
   ·exact List.mem_of_mem_take z
  obtain ⟨p, q, e⟩ := List.append_of_mem hx
  have len : (x :: q ++ p).length = r.length := by rw [e]; simp; omega
  have h2 : RowL L (x :: q ++ p) true := RowL.rotTo p (by rw [<- e]; exact h)
  generalize hs : q ++ p = s at *
  rw [List.cons_append, hs] at h2 len
  have m2 := h2.pm.mem_iff.mp m
  rw [stp_cl] at m2
  obtain ⟨a, b, e2⟩ := pth_mem m2
  have nd := h2.nd
  have hlo := h2.c3 rfl
  cases s with
  | nil => simp at hlo
  | cons z s =>
   cases a with
   | nil =>
    simp only [List.cons_append, List.nil_append, List.cons.injEq, true_and] at e2
    obtain ⟨e3, e4⟩ := e2
    subst e3
    exact ⟨s, h2, len⟩
   | cons a0 a =>
    exfalso
    simp only [List.cons_append, List.cons.injEq] at e2
    obtain ⟨_, e3⟩ := e2
    -- x stands in z :: s, or is the last one
    have key : ∀ (u v a : List Int), x ∉ u -> u ++ [x] = a ++ x :: v -> v = [] := by
     intro u
     induction u with
     | nil =>
      intro v a _ e
      cases a with
      | nil => simpa using e.symm
      | cons a0 a => simp at e
     | cons u0 u ih =>
      intro v a hu e
      cases a with
      | nil =>
       simp only [List.cons_append, List.nil_append, List.cons.injEq] at e
       exact absurd (by rw [<- e.1]; exact List.mem_cons_self) hu
      | cons a0 a =>
       simp only [List.cons_append, List.cons.injEq] at e
       exact ih v a (fun z => hu (List.mem_cons_of_mem _ z)) e.2
    rw [List.nodup_cons] at nd
    have := key (z :: s) (y :: b) a nd.1 (by simpa using e3)
    cases this
theorem RowL.mem_l {L : List (Int × Int)} {r : List Int} {cl : Bool} {x y : Int} (h : RowL L r cl) (m : (x, y) ∈ L) : x ∈ r /\ y ∈ r := by
 have m' := h.pm.mem_iff.mp m
 obtain ⟨p, q, e⟩ := pth_mem m'
 have hx : ∀ z, z ∈ wlk r cl -> z ∈ r := fun z hz => by
  unfold wlk at hz
  split at hz
  ·rcases List.mem_append.mp hz with z | z
   ·exact z
   ·exact List.mem_of_mem_take z
  ·exact hz
 exact ⟨hx x (by rw [e]; simp), hx y (by rw [e]; simp)⟩
theorem RowL.ins {L M : List (Int × Int)} {r : List Int} {cl : Bool} {b c d : Int} (h : RowL L r cl) (pm : L.Perm ((b, c) :: M)) (hd : d ∉ r) (h7 : r.length ≤ 23) : ∃ r', RowL ((b, d) :: (d, c) :: M) r' cl := by
 have m : (b, c) ∈ L := pm.mem_iff.mpr List.mem_cons_self
 rcases h.at m with ⟨rfl, p, q, e⟩ | ⟨rfl, q, h2, len⟩
 ·refine ⟨p ++ b :: d :: c :: q, ?_, ?_, ?_, ?_, fun h => by cases h⟩
  ·subst e
   have nd := h.nd
   simp only [List.nodup_append, List.nodup_cons, List.mem_cons, List.mem_append, not_or] at nd hd ⊢
   obtain ⟨n1, ⟨n2, n3, n4⟩, n5⟩ := nd
   refine ⟨n1, ⟨⟨fun e => hd.2.1 e.symm, n2⟩, ⟨hd.2.2.1, hd.2.2.2⟩, n3, n4⟩, fun x hx y hy => ?_⟩
   rcases hy with hy | hy | hy
   ·exact n5 x hx y (.inl hy)
   ·intro e; exact hd.1 (by rw [<- hy, <- e]; exact hx)
   ·exact n5 x hx y (.inr hy)
  ·have h1 := pm.symm.trans h.pm
   rw [e, stp_op, pth_app] at h1
   have h3 : ((b, c) :: M).Perm ((b, c) :: (pth (p ++ [b]) ++ pth (c :: q))) := h1.trans (by
    show (pth (p ++ [b]) ++ (b, c) :: pth (c :: q)).Perm _
    exact List.perm_middle)
   have h4 := (List.perm_cons _).mp h3
   rw [stp_op, pth_app]
   show ((b, d) :: (d, c) :: M).Perm (pth (p ++ [b]) ++ (b, d) :: (d, c) :: pth (c :: q))
   exact ((h4.cons _).cons _).trans ((List.perm_middle.trans (List.perm_middle.cons _)).symm)
  ·simp; omega
  ·rw [e] at h7; simp at h7 ⊢; omega
 ·have hd2 : d ∉ b :: c :: q := fun z => by
   have e1 := h.pm.symm.trans h2.pm
   -- the same members
   have : d ∈ r := by
    have w : ∀ (r : List Int) , 2 ≤ r.length -> ∀ z, z ∈ r -> z ∈ (stp r true).map (·.1) := by
     intro r hr z hz
     unfold stp
     rw [pth_fst]
     unfold wlk
     simp only [if_pos]
     cases r with
     | nil => cases hz
     | cons a r =>
      show z ∈ (a :: r ++ [a]).dropLast
      rw [List.dropLast_concat]; exact hz
    have w2 : ∀ (r : List Int), ∀ z, z ∈ (stp r true).map (·.1) -> z ∈ r := by
     intro r z hz
     unfold stp at hz
     rw [pth_fst] at hz
     unfold wlk at hz
     simp only [if_pos] at hz
     cases r with
     | nil => simp at hz
     | cons a r =>
      have hz : z ∈ (a :: r ++ [a]).dropLast := hz
      rw [List.dropLast_concat] at hz; exact hz
    exact w2 r d ((e1.map (·.1)).mem_iff.mpr (w _ (h2.c3 rfl) d z))
   exact hd this
  refine ⟨b :: d :: c :: q, ?_, ?_, ?_, ?_, fun _ => ?_⟩
  ·have nd := h2.nd
   simp only [List.nodup_cons, List.mem_cons, not_or] at nd hd2 ⊢
   obtain ⟨⟨n1, n2⟩, n3, n4⟩ := nd
   exact ⟨⟨fun e => hd2.1 e.symm, n1, n2⟩, ⟨hd2.2.1, hd2.2.2⟩, n3, n4⟩
  ·have h1 := pm.symm.trans h2.pm
   have h4 := (List.perm_cons _).mp (show ((b, c) :: M).Perm ((b, c) :: pth (c :: q ++ [b])) from h1)
   show ((b, d) :: (d, c) :: M).Perm ((b, d) :: (d, c) :: pth (c :: q ++ [b]))
   exact (h4.cons _).cons _
  ·simp
  ·rw [<- len] at h7; simp at h7 ⊢; omega
  ·simp
structure VSL (S : List Tri) (n : Int) : Prop where
 rng : ∀ t ∈ S, 0 ≤ t.1 /\ t.1 < n
 irr : ∀ t ∈ S, t.1 ≠ t.2.1
 rot : ∀ t ∈ S, rt t ∈ S
 nd : (S.map way).Nodup
 row : ∀ v, 0 ≤ v -> v < n -> ∃ r cl, RowL (lnk v S) r cl
theorem VSL.perm {S S' : List Tri} {n : Int} (h : VSL S n) (p : S'.Perm S) : VSL S' n := by
 refine ⟨fun t ht => h.rng t (p.mem_iff.mp ht), fun t ht => h.irr t (p.mem_iff.mp ht), fun t ht => p.mem_iff.mpr (h.rot t (p.mem_iff.mp ht)), (p.map way).nodup_iff.mpr h.nd, fun v h0 h1 => ?_⟩
 obtain ⟨r, cl, hr⟩ := h.row v h0 h1
 exact ⟨r, cl, hr.perm (lnk_perm p)⟩
theorem RowL.mem_r {L : List (Int × Int)} {r : List Int} {cl : Bool} {x : Int} (h : RowL L r cl) (m : x ∈ r) : ∃ p ∈ L, p.1 = x \/ p.2 = x := by
 obtain ⟨a, b, e⟩ := List.append_of_mem m
 have key : ∃ p ∈ stp r cl, p.1 = x \/ p.2 = x := by
  have w : ∃ t, wlk r cl = r ++ t := by unfold wlk; split; exact ⟨_, rfl⟩; exact ⟨[], by simp⟩
  obtain ⟨t, et⟩ := w
  unfold stp
  rw [et, e]
  cases b with
  | cons y b => exact ⟨(x, y), by have := pth_in (x := x) (y := y) a (b ++ t); simpa using this, .inl rfl⟩
  | nil =>
   have hl := h.lo
   rw [e] at hl
   rcases List.eq_nil_or_concat a with ea | ⟨a', y, ea⟩
   ·rw [ea] at hl; simp at hl
   ·refine ⟨(y, x), ?_, .inr rfl⟩
    rw [ea]
    have := pth_in (x := y) (y := x) a' t
    simpa using this
 obtain ⟨p, hp, q⟩ := key
 exact ⟨p, h.pm.mem_iff.mpr hp, q⟩
theorem VSL.snd {S : List Tri} {n : Int} (h : VSL S n) {t : Tri} (m : t ∈ S) : 0 ≤ t.2.1 /\ t.2.1 < n := h.rng _ (h.rot t m)
theorem VSL.trd {S : List Tri} {n : Int} (h : VSL S n) {t : Tri} (m : t ∈ S) : 0 ≤ t.2.2 /\ t.2.2 < n := h.rng _ (h.rot _ (h.rot t m))
theorem VSL.split {S T : List Tri} {n a b c : Int} (h : VSL S n) (p : S.Perm (spk (a, b, c) ++ T)) (hT : ∀ t ∈ T, rt t ∈ T) (hn : 0 ≤ n)
    (h7 : ∀ v r cl, v = a \/ v = b \/ v = c -> RowL (lnk v S) r cl -> r.length ≤ 23) :
    VSL (spk (a, b, n) ++ (spk (b, c, n) ++ (spk (c, a, n) ++ T))) (n + 1) := by
  have hS := h.perm p.symm
  have ma : (a, b, c) ∈ spk (a, b, c) ++ T := by simp [spk]
  have ra := hS.rng _ ma
  have rb := hS.snd ma
  have rc := hS.trd ma
  have iab := hS.irr _ ma
  have ibc := hS.irr _ (hS.rot _ ma)
  have ica := hS.irr _ (hS.rot _ (hS.rot _ ma))
  simp only [rt] at ra rb rc iab ibc ica
  have rT : ∀ t ∈ T, t ∈ spk (a, b, c) ++ T := fun t ht => List.mem_append_right _ ht
  have na : n ≠ a := by omega
  have nb : n ≠ b := by omega
  have nc : n ≠ c := by omega
  refine ⟨fun t ht => ?_, fun t ht => ?_, fun t ht => ?_, ?_, fun v h0 h1 => ?_⟩
  · simp only [List.mem_append, spk, List.mem_cons, List.not_mem_nil, or_false, rt] at ht
    rcases ht with (e | e | e) | (e | e | e) | (e | e | e) | e
    all_goals first
      | (subst e; simp only; omega)
      | (have := hS.rng t (rT t e); omega)
  · simp only [List.mem_append, spk, List.mem_cons, List.not_mem_nil, or_false, rt] at ht
    rcases ht with (e | e | e) | (e | e | e) | (e | e | e) | e
    all_goals first
      | (subst e; simp only; omega)
      | exact hS.irr t (rT t e)
  · simp only [List.mem_append, mem_spk] at ht ⊢
    rcases ht with (e | e | e) | (e | e | e) | (e | e | e) | e
    all_goals first
      | (subst e; simp [rt3])
      | (have := hT t e; simp [this])
  · have nd := hS.nd
    have e1 : ((spk (a, b, n) ++ (spk (b, c, n) ++ (spk (c, a, n) ++ T))).map way).Perm ((spk (a, b, c) ++ T).map way ++ [(b, n), (n, a), (c, n), (n, b), (a, n), (n, c)]) := by
      simp only [spk, List.map_append, List.map_cons, List.map_nil, way, rt, List.cons_append, List.nil_append]
      refine List.perm_iff_count.mpr fun x => ?_
      simp only [List.count_cons, List.count_append, List.count_nil]
      omega
    rw [e1.nodup_iff, List.nodup_append]
    refine ⟨nd, ?_, fun x hx y hy e => ?_⟩
    · simp only [List.nodup_cons, List.mem_cons, List.not_mem_nil, or_false, not_or, Prod.mk.injEq, List.nodup_nil, not_false_eq_true, and_true]
      omega
    · subst e
      obtain ⟨t, ht, rfl⟩ := List.mem_map.mp hx
      have q1 := hS.rng t ht
      have q2 := hS.snd ht
      simp only [way, List.mem_cons, List.not_mem_nil, or_false, Prod.mk.injEq] at hy
      omega
  · by_cases hvn : v = n
    · subst hvn
      have eT : lnk v T = [] := by
        refine List.eq_nil_iff_forall_not_mem.mpr fun p hp => ?_
        have := hS.rng _ (rT _ (mem_lnk.mp hp))
        simp only at this
        omega
      refine ⟨[a, b, c], true, ?_, ?_, by simp, by simp, by simp⟩
      · simp only [List.nodup_cons, List.mem_cons, List.not_mem_nil, or_false, not_or, List.nodup_nil, not_false_eq_true, and_true]
        omega
      · simp only [spk, rt, List.cons_append, List.nil_append]
        rw [lnk_no (by omega), lnk_no (by omega), lnk_yes, lnk_no (by omega), lnk_no (by omega), lnk_yes, lnk_no (by omega), lnk_no (by omega), lnk_yes, eT]
        exact List.Perm.refl _
    · obtain ⟨r, cl, hr⟩ := h.row v h0 (by omega)
      have hl := (lnk_perm (v := v) p)
      have hnr : n ∉ r := fun z => by
        obtain ⟨q, hq, e⟩ := hr.mem_r z
        have m := mem_lnk.mp hq
        have s1 := h.snd m
        have s2 := h.trd m
        simp only at s1 s2
        omega
      simp only [spk, rt, List.cons_append, List.nil_append] at hl ⊢
      by_cases va : v = a
      · subst va
        rw [lnk_yes, lnk_no (by omega), lnk_no (by omega)] at hl
        rw [lnk_yes, lnk_no (by omega), lnk_no (by omega), lnk_no (by omega), lnk_no (by omega), lnk_no (by omega), lnk_no (by omega), lnk_yes, lnk_no (by omega)]
        obtain ⟨r', hr'⟩ := hr.ins hl hnr (h7 _ _ _ (.inl rfl) hr)
        exact ⟨r', cl, hr'⟩
      · by_cases vb : v = b
        · subst vb
          rw [lnk_no (by omega), lnk_yes, lnk_no (by omega)] at hl
          rw [lnk_no (by omega), lnk_yes, lnk_no (by omega), lnk_yes, lnk_no (by omega), lnk_no (by omega), lnk_no (by omega), lnk_no (by omega), lnk_no (by omega)]
          obtain ⟨r', hr'⟩ := hr.ins hl hnr (h7 _ _ _ (.inr (.inl rfl)) hr)
          exact ⟨r', cl, hr'.perm (List.Perm.swap _ _ _)⟩
        · by_cases vc : v = c
          · subst vc
            rw [lnk_no (by omega), lnk_no (by omega), lnk_yes] at hl
            rw [lnk_no (by omega), lnk_no (by omega), lnk_no (by omega), lnk_no (by omega), lnk_yes, lnk_no (by omega), lnk_yes, lnk_no (by omega), lnk_no (by omega)]
            obtain ⟨r', hr'⟩ := hr.ins hl hnr (h7 _ _ _ (.inr (.inr rfl)) hr)
            exact ⟨r', cl, hr'.perm (List.Perm.swap _ _ _)⟩
          · rw [lnk_no (by omega), lnk_no (by omega), lnk_no (by omega)] at hl
            rw [lnk_no (by omega), lnk_no (by omega), lnk_no (by omega), lnk_no (by omega), lnk_no (by omega), lnk_no (by omega), lnk_no (by omega), lnk_no (by omega), lnk_no (by omega)]
            exact ⟨r, cl, hr.perm hl.symm⟩
theorem split_perms {F : List Tri} {n i : Nat} (hi : i < F.length) {a b c : Int} (hF : F[i] = (a, b, c)) : ∃ R, (spokes F).Perm (spk (a, b, c) ++ spokes R) /\ (spokes (splitF F i a b c n)).Perm (spk (a, b, (n : Int)) ++ (spk (b, c, (n : Int)) ++ (spk (c, a, (n : Int)) ++ spokes R))) /\ (splitF F i a b c n).length = F.length + 2 := by
 have eF : F = F.take i ++ (a, b, c) :: F.drop (i + 1) := by
  rw [<- hF, <- List.drop_eq_getElem_cons hi, List.take_append_drop]
 have p : (spokes F).Perm (spk (a, b, c) ++ spokes (F.take i ++ F.drop (i + 1))) := by
  have : F.Perm ((a, b, c) :: (F.take i ++ F.drop (i + 1))) := by
   have q := List.perm_middle (l₁ := F.take i) (a := (a, b, c)) (l₂ := F.drop (i + 1))
   rw [<- eF] at q
   exact q
  exact (spokes_perm this).trans (by rw [spokes_cons])
 have p2 : (spokes (splitF F i a b c n)).Perm (spk (a, b, (n : Int)) ++ (spk (b, c, (n : Int)) ++ (spk (c, a, (n : Int)) ++ spokes (F.take i ++ F.drop (i + 1))))) := by
  have : (splitF F i a b c n).Perm ((a, b, (n : Int)) :: (b, c, (n : Int)) :: (c, a, (n : Int)) :: (F.take i ++ F.drop (i + 1))) := by
   unfold splitF
   refine List.perm_iff_count.mpr fun x => ?_
   simp only [List.count_append, List.count_cons, List.count_nil]
   omega
  exact (spokes_perm this).trans (by rw [spokes_cons, spokes_cons, spokes_cons])
 have len : (splitF F i a b c n).length = F.length + 2 := by
  unfold splitF
  simp only [List.length_append, List.length_take, List.length_drop, List.length_cons, List.length_nil]
  omega
 exact ⟨_, p, p2, len⟩
theorem stp_len (r : List Int) (h : 1 ≤ r.length) (cl : Bool) : (stp r cl).length = if cl then r.length else r.length - 1 := by
 unfold stp wlk
 rw [pth_len]
 cases cl with
 | true => simp; omega
 | false => simp
theorem RowL.len {L : List (Int × Int)} {r : List Int} {cl : Bool} (h : RowL L r cl) : L.length = if cl then r.length else r.length - 1 := by
 rw [h.pm.length_eq]
 exact stp_len r (by have := h.lo; omega) cl
theorem RowL.mem_iff {L : List (Int × Int)} {r : List Int} {cl : Bool} (h : RowL L r cl) {y : Int} : y ∈ r ↔ y ∈ L.map (·.1) ++ L.map (·.2) := by
 rw [List.mem_append, List.mem_map, List.mem_map]
 constructor
 ·intro m
  obtain ⟨p, hp, e⟩ := h.mem_r m
  rcases e with rfl | rfl
  ·exact .inl ⟨p, hp, rfl⟩
  ·exact .inr ⟨p, hp, rfl⟩
 ·rintro (⟨p, hp, rfl⟩ | ⟨p, hp, rfl⟩)
  ·exact (h.mem_l (x := p.1) (y := p.2) hp).1
  ·exact (h.mem_l (x := p.1) (y := p.2) hp).2
end Cg
namespace Ck
open PySem PySem.Spec Mp Cg
open PyProof.Rows hiding cutD
open L2 hiding way
structure Sg where
 P : List Tri
 F : List Tri
 E : List IP
 Q : List Int
 W : List Int
structure SgOk (S : Sg) (n : Nat) : Prop where
 fine : Fine S.F n
 pl : S.P.length = n
 pin : ∀ p ∈ S.P, InP 1000 p
 inn : ∀ p ∈ S.E, InnerW (spokes S.F) p /\ p.1 < p.2
 es : sortP S.E = S.E
 en : S.E.Nodup
 qr : ∀ q ∈ S.Q, 0 ≤ q /\ q < n
 qs : PySem.W.sortI S.Q = S.Q
 qn : S.Q.Nodup
 wl : S.W.length = S.F.length
 wr : ∀ w ∈ S.W, 0 ≤ w /\ w ≤ 2
def CageIs (c : D) (S : Sg) : Prop := ∃ N T R, c = cagD S.P (webD S.F N T R) /\ NestOk (spokes S.F) N /\ sortP T = S.E /\ PySem.W.sortI R = S.Q
structure VF (F : List Tri) (n : Nat) : Prop where
 vs : VSL (spokes F) n
 n3 : 3 ≤ n
 n24 : n ≤ 24
 f1 : 1 ≤ F.length
 f32 : F.length ≤ 32
theorem VF.vj {F : List Tri} {n : Nat} (h : VF F n) : VJ F n := by
 refine ⟨h.vs.rng, h.vs.irr, h.vs.nd, fun v h0 h1 => ?_, fun v => ?_, h.f1, by have := h.f32; omega, by have := h.n24; omega⟩
 ·obtain ⟨r, cl, hr⟩ := h.vs.row v h0 h1
  cases e : lnk v (spokes F) with
  | nil =>
   have l := hr.lo
   cases r with
   | nil => simp at l
   | cons y r =>
    have := hr.mem_iff.mp (List.mem_cons_self (a := y) (l := r))
    rw [e] at this
    simp at this
  | cons p L => exact ⟨(v, p.1, p.2), mem_lnk.mp (by rw [e]; simp), rfl⟩
 ·by_cases hv : 0 ≤ v /\ v < n
  ·obtain ⟨r, cl, hr⟩ := h.vs.row v hv.1 hv.2
   have l := hr.len
   have := hr.hi
   rw [l]
   split <;> omega
  ·have : lnk v (spokes F) = [] := by
    cases e : lnk v (spokes F) with
    | nil => rfl
    | cons p L =>
     have := h.vs.rng _ (mem_lnk.mp (show p ∈ lnk v (spokes F) by rw [e]; simp))
     exact absurd this hv
   rw [this]
   simp
structure FlipS (S S' R : List Tri) (a b c d : Int) : Prop where
 p : S.Perm (spk (a, b, c) ++ (spk (b, a, d) ++ R))
 q : S'.Perm (spk (c, d, b) ++ (spk (d, c, a) ++ R))
theorem FlipS.swap {S S' R : List Tri} {a b c d : Int} (h : FlipS S S' R a b c d) : FlipS S S' R b a d c := by
 refine ⟨h.p.trans ?_, h.q.trans ?_⟩
 ·rw [<- List.append_assoc, <- List.append_assoc]; exact List.perm_append_comm.append_right _
 ·rw [<- List.append_assoc, <- List.append_assoc]; exact List.perm_append_comm.append_right _
theorem FlipS.mem {S S' R : List Tri} {a b c d : Int} (h : FlipS S S' R a b c d) {t : Tri} : t ∈ S ↔ t = (a, b, c) \/ t = (b, c, a) \/ t = (c, a, b) \/ t = (b, a, d) \/ t = (a, d, b) \/ t = (d, b, a) \/ t ∈ R := by
 rw [h.p.mem_iff]
 simp only [spk, rt, List.mem_append, List.mem_cons, List.not_mem_nil, or_false, or_assoc]
def SplitCr (F : List Tri) (t : Tri) : Prop := ∃ v ∈ l3 t, 7 < (nbL F v).length
section
variable {F : List Tri} {n i : Nat} {a b c d : Int}
theorem split_fine (h : Fine F n) (hi : i < F.length) (hF : F[i] = (a, b, c)) (hn : n < 24) (hf : F.length < 31) (k : ¬ SplitCr F (a, b, c)) : Fine (splitF F i a b c n) (n + 1) := by
 have g := h.good
 have m : (a, b, c) ∈ spokes F := mem_spokes (by rw [<- hF]; exact List.getElem_mem hi)
 have ra := g.vs.rng _ m
 have rb := g.vs.snd m
 have rc := g.vs.trd m
 refine h.split hi hF hn hf fun v r cl hv hr => ?_
 have vr : 0 ≤ v /\ v < n := by rcases hv with rfl | rfl | rfl <;> assumption
 have := deg_row g hr vr.1 vr.2
 have : ¬ 7 < (nbL F v).length := fun z => k ⟨v, by simp [l3]; exact hv, z⟩
 omega
end
abbrev nowD (S : Sg) : D := .tup [fD S.P, fD S.F, .lst (S.E.map pD), .lst (S.Q.map .int), .lst (S.W.map .int)]
section
variable {S : Sg} {n : Nat}
theorem split_ways {F : List Tri} {m i : Nat} (hi : i < F.length) {a b c : Int} (hF : F[i] = (a, b, c)) {w : IP} (h : w ∈ (spokes F).map way) : w ∈ (spokes (splitF F i a b c m)).map way := by
 obtain ⟨R, p, q, _⟩ := split_perms (n := m) hi hF
 obtain ⟨t, ht, rfl⟩ := List.mem_map.mp h
 have ht := p.mem_iff.mp ht
 have k : ∀ u, u ∈ spk (a, b, (m : Int)) ++ (spk (b, c, (m : Int)) ++ (spk (c, a, (m : Int)) ++ spokes R)) -> way u = way t -> way t ∈ (spokes (splitF F i a b c m)).map way := fun u hu e => List.mem_map.mpr ⟨u, q.mem_iff.mpr hu, e⟩
 rcases List.mem_append.mp ht with h | h
 ·have h : t = (a, b, c) \/ t = (b, c, a) \/ t = (c, a, b) := by simpa [spk, rt] using h
  rcases h with rfl | rfl | rfl
  ·exact k (a, b, (m : Int)) (by simp [spk, rt]) rfl
  ·exact k (b, c, (m : Int)) (by simp [spk, rt]) rfl
  ·exact k (c, a, (m : Int)) (by simp [spk, rt]) rfl
 ·exact k t (by simp only [List.mem_append]; exact .inr (.inr (.inr h))) rfl
theorem SgOk.split (ok : SgOk S n) {i : Nat} (hi : i < S.F.length) {a b c : Int} (hF : S.F[i] = (a, b, c)) (hn : S.P.length < 24) (hf : S.F.length < 31) (k : ¬ SplitCr S.F (a, b, c)) {p : Tri} (hp : InP 1000 p) {w : Int} (hw : S.W[i]? = some w) : SgOk ⟨S.P ++ [p], splitF S.F i a b c S.P.length, S.E, S.Q, S.W ++ [w, w]⟩ (n + 1) := by
 have pl := ok.pl
 have wm : w ∈ S.W := List.mem_of_getElem? hw
 have hw2 := ok.wr w wm
 refine ⟨?_, by simp [pl], fun q hq => ?_, fun q hq => ⟨⟨split_ways hi hF (ok.inn q hq).1.1, split_ways hi hF (ok.inn q hq).1.2⟩, (ok.inn q hq).2⟩, ok.es, ok.en, fun q hq => ?_, ok.qs, ok.qn, ?_, fun q hq => ?_⟩
 ·show Fine (splitF S.F i a b c (S.P.length : Nat)) (n + 1)
  rw [pl]
  exact split_fine ok.fine hi hF (by omega) hf k
 ·rcases List.mem_append.mp hq with h | h
  ·exact ok.pin q h
  ·rw [List.mem_singleton.mp h]; exact hp
 ·have := ok.qr q hq
  omega
 ·rw [splitF_len hi]
  simp [ok.wl]
 ·rcases List.mem_append.mp hq with h | h
  ·exact ok.wr q h
  ·simp at h
   rw [h]; exact hw2
inductive Deed where
 | mv (i : Int) (p : Tri)
 | sh (a b : Int)
 | sm (a b : Int)
 | fa (i : Int)
 | lo (i : Int)
 | sp (i : Int) (p : Tri)
 | fl (a b : Int)
 | wi (i l : Int)
def Deed.d : Deed -> D
 | .mv i p => .tup [.str "move", .int i, tD p]
 | .sh a b => .tup [.str "sharpen", .int a, .int b]
 | .sm a b => .tup [.str "smoothen", .int a, .int b]
 | .fa i => .tup [.str "fasten", .int i]
 | .lo i => .tup [.str "loosen", .int i]
 | .sp i p => .tup [.str "split", .int i, tD p]
 | .fl a b => .tup [.str "flip", .int a, .int b]
 | .wi i l => .tup [.str "wish", .int i, .int l]
end
section
variable {S : Sg} {n : Nat} {d : D} {t : ME} {Q : Slot -> ME -> Prop} {QD : D -> ME -> Prop}
theorem draw_e {m : Int} {me : ME -> MR} (hd : Bx d) (hm : smN m) (h : WR (me (.box d :: t)) fun s ρ1 => s = .v (.int m) /\ ρ1 = .box d :: t) (q : ∀ r d', 0 ≤ r -> r < m -> Bx d' -> Q (.v (.int r)) (.box d' :: t)) : WR (mFnX m_law_draw 0 (mCons me mNil) (.box d :: t)) Q := by
 refine draw_x rfl (wl_cons ?_)
 refine h.mono fun s ρ1 ⟨hs, e⟩ => ?_
 subst hs; subst e
 exact ⟨_, rfl, wl_nil ⟨m, d, rfl, rfl, hd, hm, q⟩⟩
theorem draw_c {m : Int} (hd : Bx d) (hm : smN m) (q : ∀ r d', 0 ≤ r -> r < m -> Bx d' -> Q (.v (.int r)) (.box d' :: t)) : WR (mFnX m_law_draw 0 (mCons (mC (.int m)) mNil) (.box d :: t)) Q :=
 draw_e hd hm ⟨_, _, rfl, rfl, rfl⟩ q
theorem smN_of {m : Nat} (h0 : 0 < m) (h1 : m < 1000) : smN (m : Nat) := ⟨by omega, by omega⟩
end
abbrev N5 : List Str := ["begun", "here", "hopes", "past", "future"]
abbrev K4 : List Key := [.inr "now", .inr "past", .inr "ahead", .inr "first"]
structure ShopAt (cs : List Cell) (p q f : Nat) (c0 c w : D) (past fut : List D) : Prop where
 ins : cs[p]? = some (.ins "Workshop" N5 [.d c0, .d c, .d w, .p q, .p f])
 past : cs[q]? = some (.d (.lst past))
 fut : cs[f]? = some (.d (.lst fut))
structure LawAt (cs : List Cell) (m r a : Nat) (now : D) (past ahead : List D) (first : D) : Prop where
 dic : cs[m]? = some (.dK K4 [.d now, .p r, .p a, .d first])
 past : cs[r]? = some (.d (.lst past))
 ahead : cs[a]? = some (.d (.lst ahead))
theorem lt_of_some {α : Type} {L : List α} {i : Nat} {x : α} (h : L[i]? = some x) : i < L.length := (List.getElem?_eq_some_iff.mp h).1
section
variable {cs : List Cell} {p q f : Nat} {c0 c w : D} {past fut : List D} {ρ : ME} {h i : Nat} {Q : Slot -> ME -> Prop}
def T3 (t : D × D × D) : D := .tup [t.1, t.2.1, t.2.2]
def T2 (t : D × D) : D := .tup [t.1, t.2]
def upd (cs : List Cell) (q : Nat) (A : Cell) (p : Nat) (B : Cell) : List Cell := (cs.set q A).set p B ++ [.d (.lst [])]
theorem upd_at {A B : Cell} (hp : p < cs.length) (hq : q < cs.length) (pq : p ≠ q) (i : Nat) : (upd cs q A p B)[i]? = if i = p then some B else if i = q then some A else if i = cs.length then some (.d (.lst [])) else cs[i]? := by
 unfold upd
 by_cases h1 : i < cs.length
 ·rw [List.getElem?_append_left (by simpa using h1), List.getElem?_set]
  by_cases h2 : p = i
  ·subst h2
   rw [if_pos rfl, if_pos (by simpa using hp), if_pos rfl]
  ·rw [if_neg h2, if_neg (fun z => h2 z.symm), List.getElem?_set]
   by_cases h3 : q = i
   ·subst h3
    rw [if_pos rfl, if_pos hq, if_pos rfl]
   ·rw [if_neg h3, if_neg (fun z => h3 z.symm), if_neg (by omega)]
 ·by_cases h2 : i = cs.length
  ·subst h2
   rw [if_neg (by omega), if_neg (by omega), if_pos rfl, List.getElem?_append_right (by simp)]
   simp
  ·rw [if_neg (by omega), if_neg (by omega), if_neg h2, List.getElem?_eq_none (by simp; omega), List.getElem?_eq_none (by omega)]
def NX (cs : List Cell) : Prop := cs.all noXC = true
end
section
variable {cs : List Cell} {c : D} {S : Sg} {n : Nat}
def listsD (S : Sg) : List D := [fD S.P, fD S.F, .lst (S.E.map pD), .lst (S.Q.map .int)]
end
section
variable {cs : List Cell} {p q f m r a h i : Nat} {c0 c w now first : D} {past fut lpast ahead : List D} {ρ : ME} {Q : Slot -> ME -> Prop} {S S0 : Sg} {n n0 : Nat}
theorem SameD.str (n : Nat) (x : Str) : SameD (n + 1) (.str x) := by
 obtain ⟨s, ρ, e, rfl⟩ := same_str (n := n) x
 exact ⟨ρ, e⟩
theorem deed_same (n : Nat) (dd : Deed) : SameD (n + 3) dd.d := by
 cases dd <;> (refine SameD.tup (by simp) fun d hd => ?_) <;> simp only [List.mem_cons, List.not_mem_nil, or_false] at hd <;>
  first
  | (rcases hd with rfl | rfl | rfl <;> first | exact SameD.str _ _ | exact SameD.int _ _ | exact SameD.tri _ _)
  | (rcases hd with rfl | rfl <;> first | exact SameD.str _ _ | exact SameD.int _ _)
end
theorem NX.get {cs : List Cell} (h : NX cs) {i : Nat} {x : Cell} (e : cs[i]? = some x) : noXC x = true := List.all_eq_true.mp h x (List.mem_of_getElem? e)
theorem CageIs.nx {c : D} {S : Sg} (h : CageIs c S) : noX c = true := by
 obtain ⟨N, T, R, rfl, hN, _⟩ := h
 exact noX_cag hN
structure BothW (cs : List Cell) (b c0 c : D) (S0 S : Sg) (n0 n f a : Nat) (H : List (D × D × D)) (G : List (D × D)) : Prop where
 box : cs[0]? = some (.d b)
 bx : Bx b
 shop : ShopAt cs 1 2 f c0 c (.lst (S.W.map .int)) (H.map T3) []
 law : LawAt cs 6 4 a (nowD S) (G.map T2) [] (.lst (listsD S0))
 fi : f = 3 \/ 7 < f
 ai : a = 5 \/ 7 < a
 nx : NX cs
 len : 7 < cs.length
 ok : SgOk S n
 ok0 : SgOk S0 n0
 hc : CageIs c S
 hc0 : CageIs c0 S0
 eq : H.map (·.1) = G.map (·.1)
 dd : ∀ d ∈ H.map (·.1), ∃ dd : Deed, d = dd.d
 hl : H.length ≤ 60
def OutR (r : MR) (o : Option Er) (P : ME -> Prop) : Prop := match o with
 | none => WR r fun s ρ => s = .v .non /\ P ρ
 | some e => ER r e P
section
variable {o : Option Er} {P : ME -> Prop} {ρ : ME} {s t : ME -> MS} {a mo : ME -> MR} {p : ME -> MB} {h k n : Nat} {ms : ME -> MLP} {cs : List Cell}
theorem OutR.mono {r : MR} {P' : ME -> Prop} (h : OutR r o P) (w : ∀ ρ, P ρ -> P' ρ) : OutR r o P' := by
 cases o with
 | none => exact WR.mono h fun s ρ ⟨h1, h2⟩ => ⟨h1, w ρ h2⟩
 | some e => obtain ⟨ρ, e1, e2⟩ := h; exact ⟨ρ, e1, w ρ e2⟩
end
section
variable {cs : List Cell} {p q f m r a P Q : Nat} {c0 c w now first : D} {past fut lpast ahead : List D} {A B : Cell}
theorem ShopAt.frame (s : ShopAt cs p q f c0 c w past fut) (hP : P < cs.length) (hQ : Q < cs.length) (PQ : P ≠ Q) (n1 : p ≠ P /\ p ≠ Q) (n2 : q ≠ P /\ q ≠ Q) (n3 : f ≠ P /\ f ≠ Q) : ShopAt (upd cs Q A P B) p q f c0 c w past fut := by
 have l1 := lt_of_some s.ins
 have l2 := lt_of_some s.past
 have l3 := lt_of_some s.fut
 have at_ := upd_at (A := A) (B := B) hP hQ PQ
 refine ⟨?_, ?_, ?_⟩
 ·rw [at_, if_neg n1.1, if_neg n1.2, if_neg (by omega)]; exact s.ins
 ·rw [at_, if_neg n2.1, if_neg n2.2, if_neg (by omega)]; exact s.past
 ·rw [at_, if_neg n3.1, if_neg n3.2, if_neg (by omega)]; exact s.fut
theorem LawAt.frame (s : LawAt cs m r a now lpast ahead first) (hP : P < cs.length) (hQ : Q < cs.length) (PQ : P ≠ Q) (n1 : m ≠ P /\ m ≠ Q) (n2 : r ≠ P /\ r ≠ Q) (n3 : a ≠ P /\ a ≠ Q) : LawAt (upd cs Q A P B) m r a now lpast ahead first := by
 have l1 := lt_of_some s.dic
 have l2 := lt_of_some s.past
 have l3 := lt_of_some s.ahead
 have at_ := upd_at (A := A) (B := B) hP hQ PQ
 refine ⟨?_, ?_, ?_⟩
 ·rw [at_, if_neg n1.1, if_neg n1.2, if_neg (by omega)]; exact s.dic
 ·rw [at_, if_neg n2.1, if_neg n2.2, if_neg (by omega)]; exact s.past
 ·rw [at_, if_neg n3.1, if_neg n3.2, if_neg (by omega)]; exact s.ahead
end
def mv3 (cs : List Cell) (x : Nat) (A : Cell) (y : Nat) (B : Cell) (z : Nat) (C : Cell) : List Cell := ((cs.set x A).set y B).set z C
section
variable {cs : List Cell} {p q f : Nat} {c0 c w : D} {past fut : List D}
theorem NX.mv {x y z : Nat} {A B C : Cell} (h : NX cs) (hA : noXC A = true) (hB : noXC B = true) (hC : noXC C = true) : NX (mv3 cs x A y B z C) := by
 unfold NX mv3 at *
 rw [List.all_eq_true] at h ⊢
 intro u hu
 rcases List.mem_or_eq_of_mem_set hu with hu | rfl
 ·rcases List.mem_or_eq_of_mem_set hu with hu | rfl
  ·rcases List.mem_or_eq_of_mem_set hu with hu | rfl
   ·exact h u hu
   ·exact hA
  ·exact hB
 ·exact hC
end
structure Ent where
 dd : Deed
 c : D
 S : Sg
def Ent.ok (e : Ent) : Prop := CageIs e.c e.S /\ ∃ n, SgOk e.S n
def FewD (cs : List Cell) (b : D) (j : Nat) : Prop := ∃ c0 c S0 S n0 n f a H G, BothW cs b c0 c S0 S n0 n f a H G /\ H.length ≤ j
theorem FewD.up {cs : List Cell} {b : D} {j k : Nat} (h : FewD cs b j) (jk : j ≤ k) : FewD cs b k := by
 obtain ⟨c0, c, S0, S, n0, n, f, a, H, G, w, l⟩ := h
 exact ⟨c0, c, S0, S, n0, n, f, a, H, G, w, Nat.le_trans l jk⟩
end Ck
namespace Ck
open PySem PySem.Spec Mp Cg TL
open PyProof.Rows hiding cutD
open L2 hiding way
def c_MOST_FIGURES : D := (.int 7)
noncomputable def b_number_in : ME -> MS := (mSeq (mSet 1 (mVar 0)) (mSeq (mIfS (mTst (mOp gEq (mSlV 0 mNoPart (mPart (mC (.int 1)))) (mC (.str "-"))))
 (mSet 1 (mSlV 0 (mPart (mC (.int 1))) mNoPart))
 mSkip) (mSeq (mIfS (mOrB (mNotB (mTst (mChain gLe gLe (mC (.int 1)) (mCallV gLen 1) (mC c_MOST_FIGURES)))) (mNotB (mTst (mCall1 gAll (mLc (mItS (mVar 1)) (tgName 2) mYes (mOp gInS (mVar 2) (mC (.str "0123456789"))) [2])))))
 (mRet (mC .non))
 mSkip) (mSeq (mIfS (mAndB (mTst (mOp gEq (mIxV 1 (mC (.int 0))) (mC (.str "0")))) (mTst (mOp gNe (mVar 0) (mC (.str "0")))))
 (mRet (mC .non))
 mSkip) (mRet (mCall (g1 gIntS) (mCons (mVar 0) mNil)))))))
noncomputable def m_number_in : MF := fnM 2 b_number_in
noncomputable def b_numbers_in : ME -> MS := (mSeq (mSet 1 (mLc (mItL (mVar 0)) (tgName 2) mYes (mFn m_number_in (mCons (mVar 2) mNil)) [2])) (mSeq (mIfS (mTst (mInV gInA (mC .non) 1))
 (mRet (mC .non))
 mSkip) (mRet (mVar 1))))
noncomputable def m_numbers_in : MF := fnM 2 b_numbers_in
noncomputable def b_law_number : ME -> MS := (mSeq (mSet 1 (mVar 0)) (mSeq (mIfS (mTst (mOp gEq (mSlV 0 mNoPart (mPart (mC (.int 1)))) (mC (.str "-"))))
 (mSet 1 (mSlV 0 (mPart (mC (.int 1))) mNoPart))
 mSkip) (mSeq (mIfS (mOrB (mTst (mOp gLt (mCallV gLen 1) (mC (.int 1)))) (mOrB (mTst (mOp gGt (mCallV gLen 1) (mC (.int 7)))) (mNotB (mTst (mCall1 gAll (mLc (mItS (mVar 1)) (tgName 2) mYes (mOp gInS (mVar 2) (mC (.str "0123456789"))) [2]))))))
 (mRet (mC .non))
 mSkip) (mSeq (mIfS (mAndB (mTst (mOp gEq (mIxV 1 (mC (.int 0))) (mC (.str "0")))) (mTst (mOp gNe (mVar 0) (mC (.str "0")))))
 (mRet (mC .non))
 mSkip) (mRet (mCall (g1 gIntS) (mCons (mVar 0) mNil)))))))
noncomputable def m_law_number : MF := fnM 2 b_law_number
noncomputable def b_row_text : ME -> MS := mRet (mJoin (mC (.str " ")) (mOp gAdd (mLst (mCons (mVar 0) mNil)) (mLc (mItL (mVar 1)) (tgName 2) mYes (mCall (g1 gStr) (mCons (mVar 2) mNil)) [2])))
noncomputable def m_row_text : MF := fnM 1 b_row_text
def digsOf (w : Str) : List Nat := if (tl w).take 1 = [45] then (tl w).drop 1 else tl w
def NumOk (w : Str) : Prop := 1 ≤ (digsOf w).length /\ (digsOf w).length ≤ 7 /\ (∀ c ∈ digsOf w, 48 ≤ c /\ c ≤ 57) /\ ¬ ((digsOf w).head? = some 48 /\ tl w ≠ [48])
instance (w : Str) : Decidable (NumOk w) := by unfold NumOk; infer_instance
def numIn (w : Str) : Option Int := if NumOk w then intText? w else none
def optD : Option Int -> D
 | none => .non
 | some n => .int n
theorem eq_strD (w u : Str) : gEq (.str w) (.str u) = some (.v (.bl (decide (w = u)))) := rfl
theorem ne_strD (w u : Str) : gNe (.str w) (.str u) = some (.v (.bl (!decide (w = u)))) := rfl
theorem str_eq {w u : Str} : w = u ↔ tl w = tl u := ⟨fun h => by rw [h], ext_tl⟩
theorem cut_head {w : Str} (h : 0 < w.length) : tl (cutS w none (some 1)) = (tl w).take 1 := by
 have : HT.sIx w.length w.length (some 1) = 1 := by
  simp [HT.sIx]; omega
 show ((tl w).drop (HT.sIx w.length 0 none)).take (HT.sIx w.length w.length (some 1) - HT.sIx w.length 0 none) = _
 rw [this]
 rfl
theorem cut_head' {w : Str} : tl (cutS w none (some 1)) = (tl w).take 1 := by
 by_cases h : 0 < w.length
 ·exact cut_head h
 ·have : tl w = [] := by
   rw [len_tl] at h
   exact List.length_eq_zero_iff.mp (by omega)
  have e := cutS_length w none (some 1)
  rw [len_tl, len_tl, this] at e
  rw [this]
  exact List.length_eq_zero_iff.mp (by simpa using e)
theorem cut_tail {w : Str} : tl (cutS w (some 1) none) = (tl w).drop 1 := by
 have l : w.length = (tl w).length := len_tl w
 show ((tl w).drop (HT.sIx w.length 0 (some 1))).take (HT.sIx w.length w.length none - HT.sIx w.length 0 (some 1)) = _
 cases e : tl w with
 | nil => simp
 | cons a r =>
  have h : 1 ≤ w.length := by rw [l, e]; simp
  have e1 : HT.sIx w.length 0 (some 1) = 1 := by
   simp [HT.sIx]; omega
  have e2 : HT.sIx w.length w.length none = w.length := rfl
  rw [e1, e2, List.drop_succ_cons, List.drop_zero, l, e]
  simp
theorem int_some {w : Str} (h : NumOk w) : ∃ n, intText? w = some n := by
 obtain ⟨h1, h2, h3, h4⟩ := h
 unfold digsOf at *
 split at h1
 ·rename_i hs
  rw [if_pos hs] at *
  obtain ⟨cs, hc⟩ : ∃ cs, tl w = 45 :: cs := by
   cases e : tl w with
   | nil => rw [e] at hs; cases hs
   | cons a cs => rw [e] at hs; simp at hs; exact ⟨cs, by rw [hs]⟩
  rw [hc] at h1 h2 h3
  exact ⟨_, PySem.intText_neg hc h3 (by intro z; rw [z] at h1; simp at h1) (by rw [len_tl, hc]; simp at h2 ⊢; omega)⟩
 ·rename_i hs
  rw [if_neg hs] at *
  exact ⟨_, PySem.intText_digits h3 (by intro z; rw [show tl w = [] from z] at h1; simp at h1) (by rw [len_tl]; omega)⟩
theorem len_str {z : Str} (h : z.length ≤ 16777216) : gLen (.str z) = some (.v (.int (z.length : Nat))) := by
 have hz : z.length ≤ sizeLine := by rw [sizeLine_eq]; exact h
 unfold gLen
 dsimp only
 rw [if_pos hz]
theorem ix_str {z : Str} (h : z.length ≤ 16777216) {c : Nat} {r : List Nat} (e : tl z = c :: r) : gIx (.str z) (.int 0) = some (signD c) := by
 have hz : z.length ≤ sizeLine := by rw [sizeLine_eq]; exact h
 unfold gIx
 dsimp only
 rw [if_pos hz]
 show (atI (tl z) 0).map _ = _
 rw [e]
 have : atI (c :: r) (0 : Int) = some c := (atI_nat (xs := c :: r) (j := 0) rfl : atI (c :: r) ((0 : Nat) : Int) = some c)
 rw [this]
 rfl
theorem digs_le (w : Str) : (digsOf w).length ≤ w.length := by
 rw [len_tl]
 unfold digsOf
 split
 ·rw [List.length_drop]; omega
 ·omega
theorem sign_fig (c : Nat) : decide (c ∈ ("0123456789" : Str).cps.toList) = decide (48 ≤ c /\ c ≤ 57) := by
 refine decide_eq_decide.mpr ?_
 rw [show ("0123456789" : Str).cps.toList = [48, 49, 50, 51, 52, 53, 54, 55, 56, 57] from rfl]
 simp only [List.mem_cons, List.not_mem_nil, or_false]
 omega
theorem figs_wr {ρ : ME} {w d : Str} {Q : Slot -> ME -> Prop} (e : ρ = [.v (.str w), .v (.str d), .no]) (hd : d.length < 100000) (q : Q (.v (.bl (decide (∀ c ∈ tl d, 48 ≤ c /\ c ≤ 57)))) ρ) : WR (mCall1 gAll (mLc (mItS (mVar 1)) (tgName 2) mYes (mOp gInS (mVar 2) (mC (.str "0123456789"))) [2]) ρ) Q := by
 subst e
 have ld : (tl d).length = d.length := (len_tl d).symm
 refine wr_call1 (wr_lcI (wi_str ⟨_, _, rfl, _, rfl, d, rfl, rfl, by rw [List.length_map, show d.cps.toList.length = d.length from ld]; omega, fun j acc ρ => acc = (((tl d).take j).map fun c => decide (48 ≤ c /\ c ≤ 57)).map D.bl /\ ρ = [.v (.str w), .v (.str d), .no], ⟨rfl, rfl⟩, ?_, ?_⟩))
 ·rintro j hj acc ρ ⟨rfl, rfl⟩
  have hj' : j < (tl d).length := by simpa using hj
  rw [List.getElem_map]
  refine ⟨_, rfl, wb_yes ⟨fun _ => ?_, fun z => by cases z⟩⟩
  refine wr_op ⟨_, _, rfl, _, rfl, _, _, rfl, _, rfl, _, inS_is _ _, _, rfl, ?_, rfl⟩
  rw [List.take_succ_eq_append_getElem hj', List.map_append, List.map_append, sign_fig]
  rfl
 ·rintro acc ρ2 ⟨rfl, rfl⟩
  refine ⟨_, rfl, _, all_bls _, ?_⟩
  have e2 : ((((tl d).take (d.cps.toList.map signD).length).map fun c => decide (48 ≤ c /\ c ≤ 57)).all id) = decide (∀ c ∈ tl d, 48 ≤ c /\ c ≤ 57) := by
   rw [List.length_map, show d.cps.toList = tl d from rfl, List.take_length, Bool.eq_iff_iff, List.all_eq_true, decide_eq_true_iff]
   simp
  rw [e2]
  exact q
theorem num_tail {w d : Str} (hd : tl d = digsOf w) (e : 1 ≤ d.length) (e2 : d.length ≤ 7) (e3 : ∀ c ∈ digsOf w, 48 ≤ c /\ c ≤ 57) : WS ((mSeq (mIfS (mAndB (mTst (mOp gEq (mIxV 1 (mC (.int 0))) (mC (.str "0")))) (mTst (mOp gNe (mVar 0) (mC (.str "0")))))
 (mRet (mC .non))
 mSkip) (mRet (mCall (g1 gIntS) (mCons (mVar 0) mNil)))) ([.v (.str w), .v (.str d), .no] : ME)) fun f => match f with
      | .rt s x => s = .v (optD (numIn w))
      | .nx x => Slot.v .non = .v (optD (numIn w))
      | _ => False := by
  have hl : d.length = (digsOf w).length := by rw [len_tl, hd]
  have none_ : ¬ NumOk w -> WR (mC .non ([.v (.str w), .v (.str d), .no] : ME)) fun s _ => s = .v (optD (numIn w)) := fun h => ⟨_, _, rfl, by unfold numIn; rw [if_neg h]; rfl⟩
  obtain ⟨c, r, hc⟩ : ∃ c r, tl d = c :: r := by
    cases z : tl d with
    | nil => rw [len_tl, z] at e; simp at e
    | cons c r => exact ⟨c, r, rfl⟩
  have fin : NumOk w -> WS (mRet (mCall (g1 gIntS) (mCons (mVar 0) mNil)) ([.v (.str w), .v (.str d), .no] : ME)) fun f => match f with
      | .rt s x => s = .v (optD (numIn w))
      | .nx x => Slot.v .non = .v (optD (numIn w))
      | _ => False := by
    intro ok
    obtain ⟨n, hn⟩ := int_some ok
    have lw : w.length ≤ 640 := by
      have := ok.2.1
      rw [len_tl]
      unfold digsOf at this
      split at this
      · rw [List.length_drop] at this; omega
      · omega
    refine ws_ret (wr_call (wl_cons ⟨_, _, rfl, _, rfl, wl_nil ⟨.v (.int n), ?_, ?_⟩⟩))
    · show gIntS (.str w) = _
      unfold gIntS
      dsimp only
      rw [if_pos lw, hn]
      rfl
    · unfold numIn
      rw [if_pos ok, hn]
      rfl
  refine ws_seq (ws_if (wb_and (wb_tst (wr_op (wr_ixV rfl ⟨_, _, rfl, _, rfl, _, _, rfl, ix_str (by omega) hc, _, rfl, _, _, rfl, _, rfl, _, eq_strD _ _, _, rfl, fun e4 => ?_, fun e4 => ?_⟩)))))
  · have e4 := of_decide_eq_true e4
    have c48 : c = 48 := by
      rw [str_eq] at e4
      have e4 : [c] = [48] := e4
      simpa using e4
    refine wb_tst (wr_op ⟨_, _, rfl, _, rfl, _, _, rfl, _, rfl, _, ne_strD _ _, _, rfl, fun e5 => ws_ret (none_ fun h => h.2.2.2 ⟨by rw [<- hd, hc, c48]; rfl, fun z => ?_⟩), fun e5 => ws_skip (fin ⟨by omega, by omega, e3, fun z => z.2 ?_⟩)⟩)
    · rw [decide_eq_true (str_eq.mpr (show tl w = tl ("0" : Str) from z))] at e5
      cases e5
    · by_cases y : w = ("0" : Str)
      · rw [y]; rfl
      · rw [decide_eq_false y] at e5; cases e5
  · have e4 := of_decide_eq_false e4
    refine ⟨fun z => (by cases z), fun _ => ws_skip (fin ⟨by omega, by omega, e3, fun z => e4 ?_⟩)⟩
    have := z.1
    rw [<- hd, hc] at this
    rw [str_eq]
    show [c] = [48]
    simp at this
    rw [this]
theorem num_head (w : Str) (hw : w.length < 100000) : WS (mIfS (mTst (mOp gEq (mSlV 0 mNoPart (mPart (mC (.int 1)))) (mC (.str "-"))))
 (mSet 1 (mSlV 0 (mPart (mC (.int 1))) mNoPart))
 mSkip ([.v (.str w), .v (.str w), .no] : ME)) fun f => ∃ ρ1, f = .nx ρ1 /\ ∃ d, ρ1 = [.v (.str w), .v (.str d), .no] /\ tl d = digsOf w := by
  refine ws_if (wb_tst (wr_op (wr_slS rfl (by omega) ⟨_, _, rfl, _, _, rfl, rfl, _, rfl, _, _, rfl, _, rfl, _, eq_strD _ _, _, rfl, fun e => ?_, fun e => ?_⟩)))
  · have e := of_decide_eq_true e
    rw [str_eq, cut_head', show tl ("-" : Str) = [45] by rfl] at e
    refine ws_set1 (wr_slS rfl (by omega) ⟨_, _, rfl, _, _, rfl, rfl, rfl, _, rfl, _, rfl, ?_⟩)
    unfold digsOf
    rw [if_pos e, cut_tail]
  · have e := of_decide_eq_false e
    rw [str_eq, cut_head', show tl ("-" : Str) = [45] by rfl] at e
    refine ws_skip ⟨_, rfl, _, rfl, ?_⟩
    unfold digsOf
    rw [if_neg e]
theorem number_in_wr (w : Str) (hw : w.length < 100000) : WR (m_number_in [.v (.str w)]) fun s _ => s = .v (optD (numIn w)) := by
 unfold m_number_in b_number_in
 refine wr_fnM (ws_seq (ws_set1 ⟨_, _, rfl, rfl, ?_⟩))
 dsimp only
 refine ws_norm (ρ' := [.v (.str w), .v (.str w), .no]) rfl ?_
 refine ws_cut (fun ρ => ∃ d, ρ = [.v (.str w), .v (.str d), .no] /\ tl d = digsOf w) (num_head w (by omega)) ?_
 rintro ρ ⟨d, rfl, hd⟩
 have hl : d.length = (digsOf w).length := by rw [len_tl, hd]
 have none_ : ¬ NumOk w -> WR (mC .non ([.v (.str w), .v (.str d), .no] : ME)) fun s _ => s = .v (optD (numIn w)) := fun h => ⟨_, _, rfl, by unfold numIn; rw [if_neg h]; rfl⟩
 have l7 : ∀ k : Nat, gLe (.int 1) (.int k) = some (.v (.bl (decide ((1 : Int) ≤ k)))) := fun k => rfl
 refine ws_seq (ws_if (wb_or (wb_not (wb_tst (wr_chain ⟨_, _, rfl, _, rfl, wr_callV rfl ⟨.v (.int (d.length : Nat)), len_str (by have := digs_le w; omega), _, rfl, _, l7 _, fun e => ?_, fun e => ?_⟩⟩)))))
 ·exact ⟨false, rfl, fun _ => ⟨fun _ => ws_ret (none_ fun h => by have := h.1; have := of_decide_eq_false e; omega), fun z => by cases z⟩, fun z => by cases z⟩
 have e := of_decide_eq_true e
 refine ⟨_, _, rfl, _, rfl, _, (rfl : gLe (.int (d.length : Nat)) c_MOST_FIGURES = some (.v (.bl (decide ((d.length : Int) ≤ 7))))), _, rfl, fun e2 => ⟨fun _ => ws_ret (none_ fun h => ?_), fun z => by cases z⟩, fun e2 => ?_⟩
 ·have := h.2.1
  have e2 : (!decide ((d.length : Int) ≤ 7)) = true := e2
  rw [decide_eq_true (by omega)] at e2
  cases e2
 have e2 : d.length ≤ 7 := by
  have e2 : (!decide ((d.length : Int) ≤ 7)) = false := e2
  by_cases z : (d.length : Int) ≤ 7
  ·omega
  ·rw [decide_eq_false z] at e2; cases e2
 refine wb_not (wb_tst (figs_wr rfl (by omega) ⟨_, rfl, fun e3 => ws_ret (none_ fun h => ?_), fun e3 => ws_skip ?_⟩))
 ·rw [hd, decide_eq_true h.2.2.1] at e3
  cases e3
 have e3 : ∀ c ∈ digsOf w, 48 ≤ c /\ c ≤ 57 := by
  by_cases z : ∀ c ∈ tl d, 48 ≤ c /\ c ≤ 57
  ·rwa [hd] at z
  ·rw [decide_eq_false z] at e3; cases e3
 exact num_tail hd (by omega) e2 e3
theorem law_number_wr (w : Str) (hw : w.length < 100000) : WR (m_law_number [.v (.str w)]) fun s _ => s = .v (optD (numIn w)) := by
 unfold m_law_number b_law_number
 refine wr_fnM (ws_seq (ws_set1 ⟨_, _, rfl, rfl, ?_⟩))
 dsimp only
 refine ws_norm (ρ' := [.v (.str w), .v (.str w), .no]) rfl ?_
 refine ws_cut (fun ρ => ∃ d, ρ = [.v (.str w), .v (.str d), .no] /\ tl d = digsOf w) (num_head w (by omega)) ?_
 rintro ρ ⟨d, rfl, hd⟩
 have hl : d.length = (digsOf w).length := by rw [len_tl, hd]
 have ll := digs_le w
 have none_ : ¬ NumOk w -> WR (mC .non ([.v (.str w), .v (.str d), .no] : ME)) fun s _ => s = .v (optD (numIn w)) := fun h => ⟨_, _, rfl, by unfold numIn; rw [if_neg h]; rfl⟩
 refine ws_seq (ws_if (wb_or (wb_tst (wr_op (wr_callV rfl ⟨_, len_str (by omega), _, rfl, _, _, rfl, _, rfl, _, (rfl : gLt (.int (d.length : Nat)) (.int 1) = some (.v (.bl (decide ((d.length : Int) < 1))))), _, rfl, fun e => ⟨fun _ => ws_ret (none_ fun h => ?_), fun z => by cases z⟩, fun e => ?_⟩)))))
 ·have := h.1
  have := of_decide_eq_true e
  omega
 have e := of_decide_eq_false e
 refine wb_or (wb_tst (wr_op (wr_callV rfl ⟨_, len_str (by omega), _, rfl, _, _, rfl, _, rfl, _, (rfl : gGt (.int (d.length : Nat)) (.int 7) = some (.v (.bl (decide ((d.length : Int) > 7))))), _, rfl, fun e2 => ⟨fun _ => ws_ret (none_ fun h => ?_), fun z => by cases z⟩, fun e2 => ?_⟩)))
 ·have := h.2.1
  have := of_decide_eq_true e2
  omega
 have e2 := of_decide_eq_false e2
 refine wb_not (wb_tst (figs_wr rfl (by omega) ⟨_, rfl, fun e3 => ws_ret (none_ fun h => ?_), fun e3 => ws_skip ?_⟩))
 ·rw [hd, decide_eq_true h.2.2.1] at e3
  cases e3
 have e3 : ∀ c ∈ digsOf w, 48 ≤ c /\ c ≤ 57 := by
  by_cases z : ∀ c ∈ tl d, 48 ≤ c /\ c ≤ 57
  ·rwa [hd] at z
  ·rw [decide_eq_false z] at e3; cases e3
 exact num_tail hd (by omega) (by omega) e3
def c_DEED_NUMBERS : D := (.kdc [.inr "move", .inr "sharpen", .inr "smoothen", .inr "fasten", .inr "loosen", .inr "split", .inr "flip", .inr "wish"] [(.int 4), (.int 2), (.int 2), (.int 1), (.int 1), (.int 4), (.int 2), (.int 2)])
noncomputable def b_read_deed : ME -> MS := (mSeq (mAsgSL 1 2 (mSplit (mVar 0) (mC (.str " ")))) (mSeq (mSet 3 (mFn m_numbers_in (mCons (mVar 2) mNil))) (mSeq (mIfS (mOrB (mTst (mOp gNotInA (mVar 1) (mC c_DEED_NUMBERS))) (mOrB (mTst (mOp gIsN (mVar 3) (mC .non))) (mTst (mOp gNe (mCallV gLen 3) (mIx (mC c_DEED_NUMBERS) (mVar 1))))))
 (mRaiseI "BadText" ["at"] (mCons (mC (.int 0)) mNil))
 mSkip) (mSeq (mIfS (mTst (mOp gInA (mVar 1) (mTup (mCons (mC (.str "move")) (mCons (mC (.str "split")) mNil)))))
 (mRet (mTup (mCons (mVar 1) (mCons (mIxV 3 (mC (.int 0))) (mCons (mCall (g1 gTuple) (mCons (mSlV 3 (mPart (mC (.int 1))) mNoPart) mNil)) mNil)))))
 mSkip) (mRet (mOp gAdd (mTup (mCons (mVar 1) mNil)) (mCallV gTupleV 3)))))))
noncomputable def m_read_deed : MF := fnM 3 b_read_deed
noncomputable def b_law_read_deed : ME -> MS := (mSeq (mSet 1 (mSplit (mVar 0) (mC (.str " ")))) (mSeq (mSet 2 (mDisp [.inr "move", .inr "sharpen", .inr "smoothen", .inr "fasten", .inr "loosen", .inr "split", .inr "flip", .inr "wish"] (mCons (mC (.int 4)) (mCons (mC (.int 2)) (mCons (mC (.int 2)) (mCons (mC (.int 1)) (mCons (mC (.int 1)) (mCons (mC (.int 4)) (mCons (mC (.int 2)) (mCons (mC (.int 2)) mNil)))))))))) (mSeq (mSet 3 (mLc (mItL (mSlV 1 (mPart (mC (.int 1))) mNoPart)) (tgName 4) mYes (mFn m_law_number (mCons (mVar 4) mNil)) [4])) (mSeq (mIfS (mOrB (mTst (mInV gNotInA (mIxV 1 (mC (.int 0))) 2)) (mOrB (mTst (mInV gInA (mC .non) 3)) (mTst (mOp gNe (mCallV gLen 3) (mIxV 2 (mIxV 1 (mC (.int 0))))))))
 (mRet (mC .non))
 mSkip) (mSeq (mIfS (mTst (mOp gInA (mIxV 1 (mC (.int 0))) (mTup (mCons (mC (.str "move")) (mCons (mC (.str "split")) mNil)))))
 (mRet (mTup (mCons (mIxV 1 (mC (.int 0))) (mCons (mIxV 3 (mC (.int 0))) (mCons (mCall (g1 gTuple) (mCons (mSlV 3 (mPart (mC (.int 1))) mNoPart) mNil)) mNil)))))
 mSkip) (mRet (mOp gAdd (mTup (mCons (mIxV 1 (mC (.int 0))) mNil)) (mCallV gTupleV 3))))))))
noncomputable def m_law_read_deed : MF := fnM 4 b_law_read_deed
def words (w : Str) : List Str := Txt.split w " "
theorem split_sp (w : Str) (c : Nat) (hc : c < 128) : (Txt.split w ⟨#[c]⟩).map tl = spl [c] 0 [] (tl w) :=
 split_spl w ⟨#[c]⟩ (by simp [tl]) (kind_ok (by simp; omega))
theorem words_spl (w : Str) : (words w).map tl = spl [32] 0 [] (tl w) := split_sp w 32 (by decide)
theorem spl_ne (S : List Nat) : ∀ (l : List Nat) (k : Nat) (acc : List Nat), spl S k acc l ≠ []
 | [], k, acc => by rw [spl_nil]; simp
 | c :: r, 0, acc => by
  unfold spl
  split
  ·simp
  ·exact spl_ne S r 0 _
 | c :: r, k + 1, acc => by
  unfold spl
  exact spl_ne S r k acc
theorem spl_le (S : List Nat) : ∀ (l : List Nat) (k : Nat) (acc : List Nat), ∀ p ∈ spl S k acc l, p.length ≤ acc.length + l.length
 | [], k, acc => by rw [spl_nil]; simp
 | c :: r, 0, acc => by
  intro p hp
  unfold spl at hp
  split at hp
  ·rcases List.mem_cons.mp hp with rfl | hp
   ·omega
   ·have := spl_le S r _ [] p hp
    simp at this ⊢; omega
  ·have := spl_le S r 0 _ p hp
   simp at this ⊢; omega
 | c :: r, k + 1, acc => by
  intro p hp
  unfold spl at hp
  have := spl_le S r k acc p hp
  simp; omega
theorem words_ne (w : Str) : words w ≠ [] := fun z => by
 have := words_spl w
 rw [z] at this
 exact spl_ne _ _ _ _ this.symm
theorem words_le (w : Str) : ∀ u ∈ words w, u.length ≤ w.length := fun u hu => by
 have h : tl u ∈ spl [32] 0 [] (tl w) := by rw [<- words_spl]; exact List.mem_map.mpr ⟨u, hu, rfl⟩
 have := spl_le _ _ _ _ _ h
 rw [len_tl, len_tl]
 simpa using this
theorem words_few (w : Str) : (words w).length ≤ w.length + 2 := PyProof.Rows.split_le w " "
theorem splitw_wr {ρ : ME} {Q : Slot -> ME -> Prop} {mo : ME -> MR} {w : Str} (h : WD (mo ρ) fun d ρ1 => d = .str w /\ Q (.own (.lst ((words w).map .str))) ρ1) (hw : w.length < 1000000) : WR (mSplit mo (mC (.str " ")) ρ) Q := by
 obtain ⟨s, ρ1, e, d, e2, rfl, q⟩ := h
 exact wr_split ⟨s, ρ1, e, _, e2, w, rfl, hw, _, _, rfl, _, rfl, " ", rfl, by decide, q⟩
theorem lay_opt (o : Option Int) : Lay 0 (optD o) := by
 cases o with
 | none => exact ⟨by simp [optD, D.py, PyData.canLay0], by simp [optD, D.py, PyData.depth]⟩
 | some n => exact Lay.int n
theorem lays_opt (L : List (Option Int)) : Lays 0 (L.map optD) := Lays.all fun d hd => by
 obtain ⟨o, _, rfl⟩ := List.mem_map.mp hd
 exact lay_opt o
theorem none_in (L : List (Option Int)) : inA .non (.lst (L.map optD)) = some (decide (none ∈ L)) := by
 have s1 : shp .non = true := (lay_opt none).shp (by decide)
 have s2 : shp (.lst (L.map optD)) = true := (Lay.lst (lays_opt L)).shp (by decide)
 unfold inA
 dsimp only
 rw [s1, s2]
 show some (anyE .non (L.map optD)) = _
 congr 1
 unfold anyE
 induction L with
 | nil => rfl
 | cons o L ih =>
  rw [List.map_cons]
  show (PyData.eqv (optD o).py (D.non).py || (D.pys (L.map optD)).any fun z => PyData.eqv z (D.non).py) = _
  rw [ih ((Lay.lst (lays_opt L)).shp (by decide))]
  cases o with
  | none =>
   have : PyData.eqv (optD none).py (D.non).py = true := by simp [optD, D.py, PyData.eqv]
   rw [this]
   simp
  | some n =>
   have : PyData.eqv (optD (some n)).py (D.non).py = false := by simp [optD, D.py, PyData.eqv]
   rw [this]
   simp
theorem len_lst (ds : List D) : gLen (.lst ds) = some (.v (.int (ds.length : Nat))) := rfl
def numsD (ws : List Str) : D := if none ∈ ws.map numIn then .non else .lst ((ws.map numIn).map optD)
theorem numbers_in_wr {ws : List Str} (hl : ws.length < 100000) (hw : ∀ w ∈ ws, w.length < 100000) : WR (m_numbers_in [.v (.lst (ws.map .str))]) fun s _ => s = .v (numsD ws) := by
 have wl : (ws.map D.str).length = ws.length := List.length_map _
 unfold m_numbers_in b_numbers_in
 refine wr_fnM (ws_seq (ws_set1 (wr_lcI (wi_lst ⟨_, _, rfl, _, rfl, ws.map .str, rfl, rfl, by omega, fun j acc ρ => acc = ((ws.take j).map numIn).map optD /\ ρ = [.v (.lst (ws.map .str)), .no, .no], ⟨rfl, rfl⟩, ?_, ?_⟩))))
 ·rintro j hj acc ρ ⟨rfl, rfl⟩
  have hj' : j < ws.length := by simpa using hj
  rw [List.getElem_map]
  refine ⟨_, rfl, wb_yes ⟨fun _ => ?_, fun z => by cases z⟩⟩
  refine wr_fn' (wl_cons ⟨_, _, rfl, _, rfl, wl_nil ((number_in_wr _ (hw _ (List.getElem_mem hj'))).mono fun s y hs => ?_)⟩)
  subst hs
  refine ⟨⟨_, rfl⟩, _, rfl, ?_, rfl⟩
  rw [List.take_succ_eq_append_getElem hj', List.map_append, List.map_append]
  rfl
 rintro acc ρ2 ⟨rfl, rfl⟩
 rw [wl, List.take_length]
 refine ⟨rfl, ?_⟩
 dsimp only
 refine ws_norm (ρ' := [.v (.lst (ws.map .str)), .own (.lst ((ws.map numIn).map optD)), .no]) rfl ?_
 refine ws_seq (ws_if (wb_tst (wr_inV ⟨_, _, rfl, _, rfl, _, _, rfl, (by unfold gInA; rw [none_in]; rfl), _, rfl, fun e => ws_ret ⟨_, _, rfl, ?_⟩, fun e => ws_skip (ws_ret ⟨_, _, rfl, ?_⟩)⟩)))
 ·unfold numsD
  rw [if_pos (of_decide_eq_true e)]
 ·unfold numsD
  rw [if_neg (of_decide_eq_false e)]
def keys8 : List Key := [.inr "move", .inr "sharpen", .inr "smoothen", .inr "fasten", .inr "loosen", .inr "split", .inr "flip", .inr "wish"]
def vals8 : List Nat := [4, 2, 2, 1, 1, 4, 2, 2]
def valN : List Key -> List Nat -> Key -> Option Nat
 | k' :: ks, v :: vs, k => if k' = k then some v else valN ks vs k
 | _, _, _ => none
def natD (n : Nat) : D := .int (n : Nat)
theorem valD_map : ∀ (ks : List Key) (ns : List Nat) (k : Key), valD ks (ns.map natD) k = (valN ks ns k).map natD
 | [], _, _ => by unfold valD valN; rfl
 | _ :: _, [], _ => rfl
 | k' :: ks, n :: ns, k => by
  rw [List.map_cons]
  unfold valD valN
  split
  ·rfl
  ·exact valD_map ks ns k
def szN (x : Str) : Option Nat := valN keys8 vals8 (.inr x)
theorem sz_in (x : Str) : gNotInA (.str x) c_DEED_NUMBERS = some (.v (.bl (!(szN x).isSome))) := by
 show some (Slot.v (.bl (!(valD keys8 (vals8.map natD) (.inr x)).isSome))) = _
 rw [valD_map]
 show some (Slot.v (.bl (!((szN x).map natD).isSome))) = _
 rw [Option.isSome_map]
theorem sz_ix (x : Str) : gIx c_DEED_NUMBERS (.str x) = (szN x).map natD := valD_map keys8 vals8 (.inr x)
theorem sz_in' (x : Str) : gNotInA (.str x) (.dK keys8 (vals8.map natD)) = some (.v (.bl (!(szN x).isSome))) := by
 show some (Slot.v (.bl (!(valD keys8 (vals8.map natD) (.inr x)).isSome))) = _
 rw [valD_map]
 show some (Slot.v (.bl (!((szN x).map natD).isSome))) = _
 rw [Option.isSome_map]
theorem sz_ix' (x : Str) : gIx (.dK keys8 (vals8.map natD)) (.str x) = (szN x).map natD := valD_map keys8 vals8 (.inr x)
theorem sz_cases {x : Str} {n : Nat} (h : szN x = some n) : (x = "move" /\ n = 4) \/ (x = "sharpen" /\ n = 2) \/ (x = "smoothen" /\ n = 2) \/ (x = "fasten" /\ n = 1) \/ (x = "loosen" /\ n = 1) \/ (x = "split" /\ n = 4) \/ (x = "flip" /\ n = 2) \/ (x = "wish" /\ n = 2) := by
 unfold szN keys8 vals8 at h
 simp only [valN, Sum.inr.injEq] at h
 split at h
 ·rename_i e; cases h; exact .inl ⟨e.symm, rfl⟩
 split at h
 ·rename_i e; cases h; exact .inr (.inl ⟨e.symm, rfl⟩)
 split at h
 ·rename_i e; cases h; exact .inr (.inr (.inl ⟨e.symm, rfl⟩))
 split at h
 ·rename_i e; cases h; exact .inr (.inr (.inr (.inl ⟨e.symm, rfl⟩)))
 split at h
 ·rename_i e; cases h; exact .inr (.inr (.inr (.inr (.inl ⟨e.symm, rfl⟩))))
 split at h
 ·rename_i e; cases h; exact .inr (.inr (.inr (.inr (.inr (.inl ⟨e.symm, rfl⟩)))))
 split at h
 ·rename_i e; cases h; exact .inr (.inr (.inr (.inr (.inr (.inr (.inl ⟨e.symm, rfl⟩))))))
 split at h
 ·rename_i e; cases h; exact .inr (.inr (.inr (.inr (.inr (.inr (.inr ⟨e.symm, rfl⟩))))))
 ·cases h
def isMs (x : Str) : Bool := decide (x = "move") || decide (x = "split")
theorem ms_in {x : Str} {n : Nat} (h : szN x = some n) : gInA (.str x) (.tup [.str "move", .str "split"]) = some (.v (.bl (isMs x))) := by
 rcases sz_cases h with ⟨rfl, _⟩ | ⟨rfl, _⟩ | ⟨rfl, _⟩ | ⟨rfl, _⟩ | ⟨rfl, _⟩ | ⟨rfl, _⟩ | ⟨rfl, _⟩ | ⟨rfl, _⟩ <;> kernel_rfl
def RdOk (x : Str) (L : List (Option Int)) : Prop := szN x = some L.length /\ none ∉ L
instance (x : Str) (L : List (Option Int)) : Decidable (RdOk x L) := by unfold RdOk; infer_instance
def deedD (x : Str) (L : List (Option Int)) : D := if isMs x = true then .tup [.str x, optD (L.headD none), .tup (L.tail.map optD)] else .tup (.str x :: L.map optD)
def readD (w : Str) : Option D := match words w with
 | [] => none
 | x :: r => if RdOk x (r.map numIn) then some (deedD x (r.map numIn)) else none
theorem ne_i {i j : Int} : gNe (.int i) (.int j) = some (.v (.bl (!decide (i = j)))) := rfl
section
variable {w x : Str} {r : List Str}
theorem rd_cond {s2 : Slot} {QB : Bool -> ME -> Prop} (q1 : ¬ RdOk x (r.map numIn) -> QB true [.v (.str w), .v (.str x), s2, .v (numsD r)]) (q2 : RdOk x (r.map numIn) -> QB false [.v (.str w), .v (.str x), s2, .v (numsD r)]) :
    Mp.WB (mOrB (mTst (mOp gNotInA (mVar 1) (mC c_DEED_NUMBERS))) (mOrB (mTst (mOp gIsN (mVar 3) (mC .non))) (mTst (mOp gNe (mCallV gLen 3) (mIx (mC c_DEED_NUMBERS) (mVar 1))))) [.v (.str w), .v (.str x), s2, .v (numsD r)]) QB := by
  refine wb_or (wb_tst (wr_op ⟨_, _, rfl, _, rfl, _, _, rfl, _, rfl, _, sz_in x, _, rfl, fun e => q1 fun h => ?_, fun e => ?_⟩))
  · rw [h.1] at e; cases e
  obtain ⟨n, hn⟩ : ∃ n, szN x = some n := by
    cases z : szN x with
    | none => rw [z] at e; cases e
    | some n => exact ⟨n, rfl⟩
  by_cases hN : none ∈ r.map numIn
  · have en : numsD r = .non := by unfold numsD; rw [if_pos hN]
    rw [en] at q1 q2 ⊢
    exact wb_or (wb_tst (wr_op ⟨_, _, rfl, _, rfl, _, _, rfl, _, rfl, _, rfl, _, rfl, fun _ => q1 fun h => h.2 hN, fun z => by cases z⟩))
  · have en : numsD r = .lst ((r.map numIn).map optD) := by unfold numsD; rw [if_neg hN]
    rw [en] at q1 q2 ⊢
    have ll : ((r.map numIn).map optD).length = (r.map numIn).length := List.length_map _
    have fin : QB (!decide ((((r.map numIn).map optD).length : Int) = (n : Int))) [.v (.str w), .v (.str x), s2, .v (.lst ((r.map numIn).map optD))] := by
      by_cases z : (((r.map numIn).map optD).length : Int) = (n : Int)
      · rw [decide_eq_true z]
        exact q2 ⟨by rw [hn]; congr 1; rw [ll] at z; omega, hN⟩
      · rw [decide_eq_false z]
        refine q1 fun h => z ?_
        have := h.1
        rw [hn] at this
        rw [ll]
        cases this
        rfl
    refine wb_or (wb_tst (wr_op ⟨_, _, rfl, _, rfl, _, _, rfl, _, rfl, _, rfl, _, rfl, fun z => (by cases z), fun _ => ?_⟩))
    exact wb_tst (wr_op (wr_callV rfl ⟨_, len_lst _, _, rfl, wr_ix ⟨_, _, rfl, _, rfl, _, _, rfl, _, rfl, natD n, (by rw [sz_ix, hn]; rfl), _, rfl, _, ne_i, _, rfl, fin⟩⟩))
theorem cut1 (d : D) (ds : List D) : cutD (d :: ds) (some 1) none = ds := by
 have e1 : HT.sIx (d :: ds).length 0 (some 1) = 1 := by simp [HT.sIx]
 show ((d :: ds).drop (HT.sIx (d :: ds).length 0 (some 1))).take ((d :: ds).length - HT.sIx (d :: ds).length 0 (some 1)) = ds
 rw [e1]
 simp
theorem read_deed_wr {d : D} (hw : w.length < 10000) (h : readD w = some d) : WR (m_read_deed [.v (.str w)]) fun s _ => s = .v d := by
 unfold readD at h
 have wf := words_few w
 have wl := words_le w
 cases e : words w with
 | nil => rw [e] at h; cases h
 | cons x r =>
  rw [e] at h wf wl
  dsimp only at h
  split at h
  ·rename_i ok
   cases h
   unfold m_read_deed b_read_deed
   refine wr_fnM (ws_seq (ws_asgSL (splitw_wr ⟨_, _, rfl, _, rfl, rfl, ?_⟩ (by omega))))
   rw [e, List.map_cons]
   refine ⟨_, rfl, _, _, rfl, by rw [List.length_map]; simp at wf; omega, ?_⟩
   dsimp only
   refine ws_norm (ρ' := [.v (.str w), .v (.str x), .own (.lst (r.map .str)), .no]) rfl ?_
   refine ws_seq (ws_set1 (wr_fn' (wl_cons ⟨_, _, rfl, _, rfl, wl_nil ((numbers_in_wr (by simp at wf; omega) fun u hu => by have := wl u (by simp [hu]); omega).mono fun s y hs => ?_)⟩)))
   subst hs
   refine ⟨⟨_, rfl⟩, rfl, ?_⟩
   dsimp only
   refine ws_norm (ρ' := [.v (.str w), .v (.str x), .v (.lst (r.map .str)), .v (numsD r)]) rfl ?_
   refine ws_seq (ws_if (rd_cond (fun z => absurd ok z) fun _ => ⟨fun z => (by cases z), fun _ => ws_skip ?_⟩))
   have en : numsD r = .lst ((r.map numIn).map optD) := by unfold numsD; rw [if_neg ok.2]
   rw [en]
   refine ws_seq (ws_if (wb_tst (wr_op ⟨_, _, rfl, _, rfl, wr_tup (wl_cons ⟨_, _, rfl, _, rfl, wl_cons ⟨_, _, rfl, _, rfl, wl_nil ⟨_, rfl, _, ms_in ok.1, _, rfl, fun em => ?_, fun em => ws_skip ?_⟩⟩⟩)⟩)))
   ·obtain ⟨o, L, eL⟩ : ∃ o L, r.map numIn = o :: L := by
     cases z : r.map numIn with
     | nil =>
      have := ok.1
      rw [z] at this
      rcases sz_cases this with ⟨_, h⟩ | ⟨_, h⟩ | ⟨_, h⟩ | ⟨_, h⟩ | ⟨_, h⟩ | ⟨_, h⟩ | ⟨_, h⟩ | ⟨_, h⟩ <;> cases h
     | cons o L => exact ⟨o, L, rfl⟩
    rw [eL, List.map_cons]
    refine ws_ret (wr_tup (wl_cons ⟨_, _, rfl, _, rfl, wl_cons (wr_ixV rfl ⟨_, _, rfl, _, rfl, _, _, rfl, ix_nat (ds := optD o :: L.map optD) (k := 0) (by simp), _, rfl, wl_cons (wr_call (wl_cons (wr_slL rfl ⟨_, _, rfl, _, _, rfl, _, rfl, _, rfl, wl_nil ⟨_, rfl, _, rfl, wl_nil ?_⟩⟩)))⟩)⟩))
    rw [cut1]
    unfold deedD
    rw [if_pos em]
    rfl
   ·refine ws_ret (wr_op (wr_tup (wl_cons ⟨_, _, rfl, _, rfl, wl_nil ⟨_, rfl, wr_callV rfl ⟨_, rfl, _, rfl, _, gAdd_t (by simp at wf ⊢; omega), ?_⟩⟩⟩)))
    unfold deedD
    rw [if_neg (by rw [em]; decide)]
    rfl
  ·cases h
theorem read_deed_er (hw : w.length < 10000) (h : readD w = none) : ER (m_read_deed [.v (.str w)]) ⟨"BadText", ["at"], [.int 0]⟩ fun _ => True := by
 unfold readD at h
 have wf := words_few w
 have wl := words_le w
 cases e : words w with
 | nil => exact absurd e (words_ne w)
 | cons x r =>
  rw [e] at h wf wl
  dsimp only at h
  split at h
  ·cases h
  ·rename_i bad
   unfold m_read_deed b_read_deed
   refine er_fnM (es_seq2 (ws_asgSL (splitw_wr ⟨_, _, rfl, _, rfl, rfl, ?_⟩ (by omega))))
   rw [e, List.map_cons]
   refine ⟨_, rfl, _, _, rfl, by rw [List.length_map]; simp at wf; omega, _, rfl, ?_⟩
   refine es_seq2 (ws_norm (ρ' := [.v (.str w), .v (.str x), .own (.lst (r.map .str)), .no]) rfl (ws_set1 (wr_fn' (wl_cons ⟨_, _, rfl, _, rfl, wl_nil ((numbers_in_wr (by simp at wf; omega) fun u hu => by have := wl u (by simp [hu]); omega).mono fun s y hs => ?_)⟩))))
   subst hs
   refine ⟨⟨_, rfl⟩, rfl, _, rfl, es_seq1 (es_if (rd_cond (w := w) (x := x) (r := r) (s2 := .v (.lst (r.map .str))) (fun _ => ⟨fun _ => es_raiseI (wl_cons ⟨_, _, rfl, _, rfl, wl_nil ⟨rfl, trivial⟩⟩), fun z => by cases z⟩) fun z => absurd z bad))⟩
end
theorem wr_disp {ks : List Key} {ms : ME -> ML} {ρ : ME} {Q : Slot -> ME -> Prop} (h : WL (ms ρ) fun ds ρ1 => ds.length = ks.length /\ Q (.own (.dK ks ds)) ρ1) : WR (mDisp ks ms ρ) Q := by
 obtain ⟨ds, ρ1, e, l, q⟩ := h
 refine ⟨_, _, ?_, q⟩
 unfold mDisp
 rw [e]
 show (if ds.length = ks.length then _ else _) = _
 rw [if_pos l]
section
variable {w x : Str} {r : List Str}
theorem law_read_deed_wr (hw : w.length < 10000) : WR (m_law_read_deed [.v (.str w)]) fun s _ => s = .v ((readD w).getD .non) := by
 have wf := words_few w
 have wl := words_le w
 obtain ⟨x, r, e⟩ : ∃ x r, words w = x :: r := by
  cases z : words w with
  | nil => exact absurd z (words_ne w)
  | cons x r => exact ⟨x, r, rfl⟩
 have hr : readD w = if RdOk x (r.map numIn) then some (deedD x (r.map numIn)) else none := by unfold readD; rw [e]
 rw [e] at wf wl
 unfold m_law_read_deed b_law_read_deed
 refine wr_fnM (ws_seq (ws_set1 (splitw_wr ⟨_, _, rfl, _, rfl, rfl, rfl, ?_⟩ (by omega))))
 rw [e, List.map_cons]
 dsimp only
 refine ws_norm (ρ' := [.v (.str w), .own (.lst (.str x :: r.map .str)), .no, .no, .no]) rfl ?_
 refine ws_seq (ws_set1 (wr_disp ?_))
 refine wl_cons ⟨_, _, rfl, _, rfl, wl_cons ⟨_, _, rfl, _, rfl, wl_cons ⟨_, _, rfl, _, rfl, wl_cons ⟨_, _, rfl, _, rfl, wl_cons ⟨_, _, rfl, _, rfl, wl_cons ⟨_, _, rfl, _, rfl, wl_cons ⟨_, _, rfl, _, rfl, wl_cons ⟨_, _, rfl, _, rfl, wl_nil ⟨rfl, rfl, ?_⟩⟩⟩⟩⟩⟩⟩⟩⟩
 dsimp only
 refine ws_norm (ρ' := [.v (.str w), .own (.lst (.str x :: r.map .str)), .own (.dK keys8 (vals8.map natD)), .no, .no]) rfl ?_
 refine ws_seq (ws_set1 (wr_lcI (wi_lst (wr_slL rfl ⟨_, _, rfl, _, _, rfl, _, rfl, _, rfl, r.map .str, cut1 _ _ ▸ rfl, rfl, by rw [List.length_map]; simp at wf; omega, fun j acc ρ => acc = ((r.take j).map numIn).map optD /\ ρ = [.v (.str w), .own (.lst (.str x :: r.map .str)), .own (.dK keys8 (vals8.map natD)), .no, .no], ⟨rfl, rfl⟩, ?_, ?_⟩))))
 ·rintro j hj acc ρ ⟨rfl, rfl⟩
  have hj' : j < r.length := by simpa using hj
  rw [List.getElem_map]
  refine ⟨_, rfl, wb_yes ⟨fun _ => ?_, fun z => by cases z⟩⟩
  refine wr_fn' (wl_cons ⟨_, _, rfl, _, rfl, wl_nil ((law_number_wr _ (by have := wl r[j] (by simp); omega)).mono fun s y hs => ?_)⟩)
  subst hs
  refine ⟨⟨_, rfl⟩, _, rfl, ?_, rfl⟩
  rw [List.take_succ_eq_append_getElem hj', List.map_append, List.map_append]
  rfl
 rintro acc ρ2 ⟨rfl, rfl⟩
 rw [List.length_map, List.take_length]
 refine ⟨rfl, ?_⟩
 dsimp only
 refine ws_norm (ρ' := [.v (.str w), .own (.lst (.str x :: r.map .str)), .own (.dK keys8 (vals8.map natD)), .own (.lst ((r.map numIn).map optD)), .no]) rfl ?_
 have x0 : gIx (.lst (.str x :: r.map .str)) (.int 0) = some (.str x) := ix_nat (ds := .str x :: r.map .str) (k := 0) (by simp)
 have bad : ¬ RdOk x (r.map numIn) -> ∀ ρ, WR (mC .non ρ) fun s _ => s = .v ((readD w).getD .non) := fun h ρ => ⟨_, _, rfl, by rw [hr, if_neg h]; rfl⟩
 have ll : ((r.map numIn).map optD).length = (r.map numIn).length := List.length_map _
 refine ws_seq (ws_if (wb_or (wb_tst (wr_inV (wr_ixV rfl ⟨_, _, rfl, _, rfl, _, _, rfl, x0, _, rfl, _, _, rfl, sz_in' x, _, rfl, fun en => ⟨fun _ => ws_ret (bad (fun h => ?_) _), fun z => (by cases z)⟩, fun en => ?_⟩)))))
 ·rw [h.1] at en; cases en
 obtain ⟨n, hn⟩ : ∃ n, szN x = some n := by
  cases z : szN x with
  | none => rw [z] at en; cases en
  | some n => exact ⟨n, rfl⟩
 refine wb_or (wb_tst (wr_inV ⟨_, _, rfl, _, rfl, _, _, rfl, (by unfold gInA; rw [none_in]; rfl), _, rfl, fun e2 => ⟨fun _ => ws_ret (bad (fun h => h.2 (of_decide_eq_true e2)) _), fun z => (by cases z)⟩, fun e2 => ?_⟩))
 have e2 := of_decide_eq_false e2
 refine wb_tst (wr_op (wr_callV rfl ⟨_, len_lst _, _, rfl, wr_ixV rfl (wr_ixV rfl ⟨_, _, rfl, _, rfl, _, _, rfl, x0, _, rfl, _, natD n, rfl, (by rw [sz_ix', hn]; rfl), _, rfl, _, ne_i, _, rfl, fun e3 => ws_ret (bad (fun h => ?_) _), fun e3 => ws_skip ?_⟩)⟩))
 ·have := h.1
  rw [hn] at this
  cases this
  rw [ll, decide_eq_true rfl] at e3
  cases e3
 have ok : RdOk x (r.map numIn) := by
  refine ⟨?_, e2⟩
  rw [hn]
  congr 1
  by_cases z : (((r.map numIn).map optD).length : Int) = (n : Int)
  ·rw [ll] at z; omega
  ·rw [decide_eq_false z] at e3; cases e3
 rw [hr, if_pos ok]
 refine ws_seq (ws_if (wb_tst (wr_op (wr_ixV rfl ⟨_, _, rfl, _, rfl, _, _, rfl, x0, _, rfl, wr_tup (wl_cons ⟨_, _, rfl, _, rfl, wl_cons ⟨_, _, rfl, _, rfl, wl_nil ⟨_, rfl, _, ms_in ok.1, _, rfl, fun em => ?_, fun em => ws_skip ?_⟩⟩⟩)⟩))))
 ·obtain ⟨o, L, eL⟩ : ∃ o L, r.map numIn = o :: L := by
   cases z : r.map numIn with
   | nil =>
    have := ok.1
    rw [z] at this
    rcases sz_cases this with ⟨_, h⟩ | ⟨_, h⟩ | ⟨_, h⟩ | ⟨_, h⟩ | ⟨_, h⟩ | ⟨_, h⟩ | ⟨_, h⟩ | ⟨_, h⟩ <;> cases h
   | cons o L => exact ⟨o, L, rfl⟩
  rw [eL, List.map_cons]
  refine ws_ret (wr_tup (wl_cons (wr_ixV rfl ⟨_, _, rfl, _, rfl, _, _, rfl, x0, _, rfl, wl_cons (wr_ixV rfl ⟨_, _, rfl, _, rfl, _, _, rfl, ix_nat (ds := optD o :: L.map optD) (k := 0) (by simp), _, rfl, wl_cons (wr_call (wl_cons (wr_slL rfl ⟨_, _, rfl, _, _, rfl, _, rfl, _, rfl, wl_nil ⟨_, rfl, _, rfl, wl_nil ?_⟩⟩)))⟩)⟩)))
  rw [cut1]
  unfold deedD
  rw [if_pos em]
  rfl
 ·refine ws_ret (wr_op (wr_tup (wl_cons (wr_ixV rfl ⟨_, _, rfl, _, rfl, _, _, rfl, x0, _, rfl, wl_nil ⟨_, rfl, wr_callV rfl ⟨_, rfl, _, rfl, _, gAdd_t (by simp at wf ⊢; omega), ?_⟩⟩⟩))))
  unfold deedD
  rw [if_neg (by rw [em]; decide)]
  rfl
end
def numStr (n : Int) : Str := Str.ofString (toString n)
theorem tl_numStr (n : Int) : tl (numStr n) = if n < 0 then 45 :: numL n.natAbs else numL n.natAbs := by
 cases n with
 | ofNat m =>
  rw [if_neg (by simp)]
  exact tl_num m
 | negSucc m =>
  rw [if_pos (by exact Int.negSucc_lt_zero m)]
  have e := tl_num (m + 1)
  rw [tl_ofString] at e
  unfold numStr
  rw [tl_ofString, show toString (Int.negSucc m) = "-" ++ toString (((m + 1 : Nat) : Int)) from rfl, String.toList_append, List.map_append, e]
  rfl
theorem numL_head {n : Nat} (h : 0 < n) : (numL n).head? ≠ some 48 := by
 induction n using Nat.strongRecOn with
 | _ n ih =>
  by_cases h1 : n < 10
  ·rw [numL_lt h1]
   simp; omega
  ·rw [numL_step (by omega)]
   have := ih (n / 10) (by omega) (by omega)
   cases e : numL (n / 10) with
   | nil => exact absurd e (numL_ne _)
   | cons a r => rw [e] at this; simpa using this
theorem numL_45 (n : Nat) : 45 ∉ numL n := numL_free (by decide)
theorem digs_num (n : Int) : digsOf (numStr n) = numL n.natAbs := by
 unfold digsOf
 rw [tl_numStr]
 by_cases h : n < 0
 ·rw [if_pos h, if_pos (by rfl)]; rfl
 ·rw [if_neg h, if_neg]
  intro z
  cases e : numL n.natAbs with
  | nil => exact absurd e (numL_ne _)
  | cons a r =>
   rw [e] at z
   simp at z
   have := numL_45 n.natAbs
   rw [e, z] at this
   simp at this
theorem numIn_num {n : Int} (h : n.natAbs < 10000000) : numIn (numStr n) = some n := by
 have hl : (numL n.natAbs).length ≤ 7 := numL_len (k := 7) (by decide) (by omega)
 have h1 : 1 ≤ (numL n.natAbs).length := by
  cases e : numL n.natAbs with
  | nil => exact absurd e (numL_ne _)
  | cons a r => simp
 have ok : NumOk (numStr n) := by
  unfold NumOk
  rw [digs_num]
  refine ⟨h1, hl, numL_digits _, fun z => ?_⟩
  by_cases h0 : n.natAbs = 0
  ·have : n = 0 := by omega
   subst this
   exact z.2 rfl
  ·exact numL_head (by omega) z.1
 unfold numIn
 rw [if_pos ok]
 have e := tl_numStr n
 by_cases h0 : n < 0
 ·rw [if_pos h0] at e
  rw [PySem.intText_neg (cs := numL n.natAbs) e (numL_digits _) (numL_ne _) (by rw [len_tl, e]; simp; omega), numL_val]
  congr 1
  omega
 ·rw [if_neg h0] at e
  rw [PySem.intText_digits (by rw [show (numStr n).cps.toList = numL n.natAbs from e]; exact numL_digits _) (by rw [show (numStr n).cps.toList = numL n.natAbs from e]; exact numL_ne _) (by rw [len_tl, e]; omega), show (numStr n).cps.toList = numL n.natAbs from e, numL_val]
  congr 1
  omega
theorem num_free {n : Int} {s : Nat} (h : s ≠ 45) (h2 : s < 48 \/ 57 < s) : s ∉ tl (numStr n) := by
 rw [tl_numStr]
 split
 ·intro z
  rcases List.mem_cons.mp z with z | z
  ·exact h z
  ·exact numL_free h2 z
 ·exact numL_free h2
theorem num_len {n : Int} {k : Nat} (hk : 0 < k) (h : n.natAbs < 10 ^ k) : (numStr n).length ≤ k + 1 := by
 have := numL_len hk h
 rw [len_tl, tl_numStr]
 split
 ·simp; omega
 ·omega
theorem log2_small {n : Int} (h : n.natAbs < 10 ^ 40) : n.natAbs.log2 < 1920 := by
 by_cases h0 : n.natAbs = 0
 ·rw [h0]; decide
 ·have : n.natAbs.log2 < 140 := (Nat.log2_lt h0).mpr (Nat.lt_trans h (by decide))
  omega
theorem str_num {n : Int} (h : n.natAbs < 10 ^ 40) : g1 gStr [.int n] = some (.v (.str (numStr n))) := by
 show gStr (.int n) = _
 unfold gStr
 dsimp only
 rw [if_pos (log2_small h)]
 rfl
theorem join_len (y : Str) : ∀ parts : List Str, (Str.join y parts).length ≤ (parts.map (·.length)).sum + parts.length * y.length
 | [] => by rw [len_tl]; exact Nat.zero_le _
 | [p] => by
  show p.length ≤ _
  simp
 | p :: q :: r => by
  have ih := join_len y (q :: r)
  have e : (Str.join y (p :: q :: r)).length = p.length + (y.length + (Str.join y (q :: r)).length) := by
   rw [len_tl, tl_join, len_tl p, len_tl y, len_tl (Str.join y (q :: r)), tl_join]
   simp [joinL]
  rw [e]
  simp only [List.map_cons, List.sum_cons, List.length_cons] at ih ⊢
  rw [Nat.add_mul, Nat.one_mul]
  omega
def rowOf (nm : Str) (ns : List Int) : Str := Txt.join " " (nm :: ns.map numStr)
theorem sumN_le {L : List Nat} {k : Nat} (h : ∀ n ∈ L, n ≤ k) : L.sum ≤ L.length * k := by
 induction L with
 | nil => simp
 | cons a L ih =>
  have := ih fun n hn => h n (by simp [hn])
  have := h a (by simp)
  simp only [List.sum_cons, List.length_cons, Nat.add_mul]
  omega
def Num40 (ns : List Int) : Prop := ∀ n ∈ ns, n.natAbs < 10 ^ 40
theorem row_parts {nm : Str} {ns : List Int} (h : Num40 ns) : ((nm :: ns.map numStr).map (·.length)).sum ≤ nm.length + ns.length * 41 := by
 rw [List.map_cons, List.sum_cons]
 have := sumN_le (L := (ns.map numStr).map (·.length)) (k := 41) (by
  intro n hn
  rw [List.map_map] at hn
  obtain ⟨z, hz, rfl⟩ := List.mem_map.mp hn
  exact num_len (k := 40) (by decide) (h z hz))
 rw [List.length_map, List.length_map] at this
 omega
theorem row_len {nm : Str} {ns : List Int} (h : Num40 ns) : (rowOf nm ns).length ≤ nm.length + ns.length * 41 + (ns.length + 1) := by
 unfold rowOf
 rw [join_eq]
 have a := join_len " " (nm :: ns.map numStr)
 have b := row_parts (nm := nm) h
 have c : (" " : Str).length = 1 := rfl
 rw [c] at a
 simp only [List.length_cons, List.length_map] at a
 omega
theorem row_text_wr {nm : Str} {ns : List Int} (hn : nm.length < 10000) (hl : ns.length < 1000) (h : Num40 ns) : WR (m_row_text [.v (.str nm), .v (.lst (ns.map .int))]) fun s _ => s = .v (.str (rowOf nm ns)) := by
 have wl : (ns.map D.int).length = ns.length := List.length_map _
 have rp := row_parts (nm := nm) h
 unfold m_row_text b_row_text
 refine wr_fnM (ws_ret (wr_join ⟨_, _, rfl, _, rfl, " ", rfl, wr_op (wr_lst (wl_cons ⟨_, _, rfl, _, rfl, wl_nil ⟨_, rfl, wr_lcI (wi_lst ⟨_, _, rfl, _, rfl, ns.map .int, rfl, rfl, by omega, fun j acc ρ => acc = ((ns.take j).map numStr).map D.str /\ ρ = [.v (.str nm), .v (.lst (ns.map .int)), .no], ⟨rfl, rfl⟩, ?_, ?_⟩)⟩⟩))⟩))
 ·rintro j hj acc ρ ⟨rfl, rfl⟩
  have hj' : j < ns.length := by simpa using hj
  rw [List.getElem_map]
  refine ⟨_, rfl, wb_yes ⟨fun _ => ?_, fun z => by cases z⟩⟩
  refine wr_call (wl_cons ⟨_, _, rfl, _, rfl, wl_nil ⟨_, str_num (h _ (List.getElem_mem hj')), _, rfl, ?_, rfl⟩⟩)
  rw [List.take_succ_eq_append_getElem hj', List.map_append, List.map_append]
  rfl
 ·rintro acc ρ2 ⟨rfl, rfl⟩
  rw [wl, List.take_length]
  refine ⟨_, rfl, _, gAdd_l (by simp; omega), _, rfl, nm :: ns.map numStr, rfl, ?_, rfl⟩
  have c : (" " : Str).length = 1 := rfl
  rw [c]
  simp only [List.length_cons, List.length_map] at rp ⊢
  omega
noncomputable def b_deed_text : ME -> MS := (mSeq (mSet 1 (mLst mNil)) (mSeq (mFor (mItT (mSlV 0 (mPart (mC (.int 1))) mNoPart)) (tgName 2)
 (mIfS (mTst (mCall1 (gIsi "tuple") (mVar 2)))
 (mDrop (mExtT 1 (mVar 2)))
 (mDrop (mApp 1 (mVar 2))))) (mRet (mFn m_row_text (mCons (mIxV 0 (mC (.int 0))) (mCons (mVar 1) mNil))))))
noncomputable def m_deed_text : MF := fnM 2 b_deed_text
noncomputable def b_law_deed_row : ME -> MS := (mSeq (mSet 1 (mLst (mCons (mIxV 0 (mC (.int 0))) mNil))) (mSeq (mFor (mItT (mSlV 0 (mPart (mC (.int 1))) mNoPart)) (tgName 2)
 (mIfS (mTst (mCall1 (gIsi "tuple") (mVar 2)))
 (mSet 1 (mOp gAdd (mVar 1) (mLc (mItT (mVar 2)) (tgName 3) mYes (mCall (g1 gStr) (mCons (mVar 3) mNil)) [3])))
 (mDrop (mApp 1 (mCall (g1 gStr) (mCons (mVar 2) mNil)))))) (mRet (mJoin (mC (.str " ")) (mVar 1)))))
noncomputable def m_law_deed_row : MF := fnM 3 b_law_deed_row
inductive DPt where
 | i (n : Int)
 | t (p : Tri)
def DPt.d : DPt -> D
 | .i n => .int n
 | .t p => tD p
def DPt.ns : DPt -> List Int
 | .i n => [n]
 | .t p => [p.1, p.2.1, p.2.2]
def Deed.nm : Deed -> Str
 | .mv _ _ => "move"
 | .sh _ _ => "sharpen"
 | .sm _ _ => "smoothen"
 | .fa _ => "fasten"
 | .lo _ => "loosen"
 | .sp _ _ => "split"
 | .fl _ _ => "flip"
 | .wi _ _ => "wish"
def Deed.prt : Deed -> List DPt
 | .mv i p => [.i i, .t p]
 | .sh a b => [.i a, .i b]
 | .sm a b => [.i a, .i b]
 | .fa i => [.i i]
 | .lo i => [.i i]
 | .sp i p => [.i i, .t p]
 | .fl a b => [.i a, .i b]
 | .wi i l => [.i i, .i l]
def Deed.ns (dd : Deed) : List Int := dd.prt.flatMap DPt.ns
theorem deed_is (dd : Deed) : dd.d = .tup (.str dd.nm :: dd.prt.map DPt.d) := by cases dd <;> rfl
theorem prt_len (dd : Deed) : dd.prt.length ≤ 2 := by cases dd <;> simp [Deed.prt]
theorem nm_len (dd : Deed) : dd.nm.length ≤ 8 := by cases dd <;> exact Nat.le_of_ble_eq_true rfl
theorem isi_it {i : Int} : gIsi "tuple" (.int i) = some (.v (.bl false)) := isi rfl (by decide +kernel)
theorem isi_tt {ds : List D} : gIsi "tuple" (.tup ds) = some (.v (.bl true)) := isi rfl (by decide +kernel)
theorem ns_len (dd : Deed) : dd.ns.length ≤ 4 := by cases dd <;> simp [Deed.ns, Deed.prt, DPt.ns]
theorem tup0 (x : D) (ds : List D) : gIx (.tup (x :: ds)) (.int 0) = some x := (atI_nat (xs := x :: ds) (j := 0) rfl : atI (x :: ds) ((0 : Nat) : Int) = some x)
theorem sum_map_le {α : Type} (L : List α) (f : α -> Nat) (k : Nat) (h : ∀ x ∈ L, f x ≤ k) : (L.map f).sum ≤ L.length * k := by
 have := sumN_le (L := L.map f) (k := k) (fun n hn => by obtain ⟨x, hx, rfl⟩ := List.mem_map.mp hn; exact h x hx)
 rwa [List.length_map] at this
theorem deed_text_wr (dd : Deed) (h : Num40 dd.ns) : WR (m_deed_text [.v dd.d]) fun s _ => s = .v (.str (rowOf dd.nm dd.ns)) := by
 have pl := prt_len dd
 have hn := nm_len dd
 have h4 := ns_len dd
 rw [deed_is]
 unfold Deed.ns at *
 generalize dd.nm = nm at *
 generalize dd.prt = ps at *
 unfold m_deed_text b_deed_text
 refine wr_fnM (ws_seq (ws_set1 (wr_lst (wl_nil ⟨rfl, ?_⟩))))
 dsimp only
 refine ws_norm (ρ' := [.v (.tup (.str nm :: ps.map DPt.d)), .own (.lst (([] : List Int).map .int)), .no]) rfl ?_
 refine ws_seq (ws_for (wi_tup (wr_slT rfl ⟨_, _, rfl, _, _, rfl, _, rfl, rfl, _, rfl, ps.map DPt.d, by rw [cut1], ?_⟩)))
 refine ws_loop (fun j ρ => ∃ x, ρ = [.v (.tup (.str nm :: ps.map DPt.d)), .own (.lst (((ps.take j).flatMap DPt.ns).map .int)), x]) ⟨_, rfl⟩ ?_ ?_
 ·rintro j hj ρ ⟨x, rfl⟩
  have hj' : j < ps.length := by simpa using hj
  rw [List.getElem_map]
  refine ⟨_, rfl, ?_⟩
  refine ws_norm (ρ' := [.v (.tup (.str nm :: ps.map DPt.d)), .own (.lst (((ps.take j).flatMap DPt.ns).map .int)), .v ps[j].d]) rfl ?_
  have tk : ((ps.take (j + 1)).flatMap DPt.ns) = (ps.take j).flatMap DPt.ns ++ ps[j].ns := by
   rw [List.take_succ_eq_append_getElem hj', List.flatMap_append]
   simp
  have lt4 : ((ps.take j).flatMap DPt.ns).length ≤ 8 := by
   have := List.length_take_le' j ps
   have s1 := sum_map_le (ps.take j) (fun p => p.ns.length) 3 fun p _ => by cases p <;> simp [DPt.ns]
   rw [List.length_flatMap]
   omega
  cases e : ps[j] with
  | i n =>
   refine ws_if (wb_tst (wr_call1 ⟨_, _, rfl, _, rfl, _, isi_it, _, rfl, fun z => (by cases z), fun _ => ws_drop (wr_app rfl ⟨_, _, rfl, _, rfl, _, rfl, by rw [List.length_map]; omega, _, rfl, .v (.int n), ?_⟩)⟩))
   rw [tk, e, List.map_append]
   rfl
  | t p =>
   refine ws_if (wb_tst (wr_call1 ⟨_, _, rfl, _, rfl, _, isi_tt, _, rfl, fun _ => ws_drop (wr_extT rfl ⟨_, _, rfl, _, rfl, _, _, rfl, rfl, by rw [List.length_map]; show _ + 3 < _; omega, _, rfl, .v (tD p), ?_⟩), fun z => by cases z⟩))
   rw [tk, e, List.map_append]
   rfl
 ·rintro ρ ⟨x, rfl⟩
  rw [List.length_map, List.take_length]
  refine ws_ret (wr_fn' (wl_cons (wr_ixV rfl ⟨_, _, rfl, _, rfl, _, _, rfl, tup0 _ _, _, rfl, wl_cons ⟨_, _, rfl, _, rfl, wl_nil ((row_text_wr (by omega) (by omega) h).mono fun s y hs => ?_)⟩⟩)))
  subst hs
  exact ⟨⟨_, rfl⟩, rfl⟩
theorem law_deed_row_wr (dd : Deed) (h : Num40 dd.ns) : WR (m_law_deed_row [.v dd.d]) fun s _ => s = .v (.str (rowOf dd.nm dd.ns)) := by
 have pl := prt_len dd
 have hn := nm_len dd
 have h4 := ns_len dd
 have hm : ∀ p ∈ dd.prt, Num40 p.ns := fun p hp n hn => h n (List.mem_flatMap.mpr ⟨p, hp, hn⟩)
 rw [deed_is]
 unfold Deed.ns at *
 generalize dd.nm = nm at *
 generalize dd.prt = ps at *
 unfold m_law_deed_row b_law_deed_row
 refine wr_fnM (ws_seq (ws_set1 (wr_lst (wl_cons (wr_ixV rfl ⟨_, _, rfl, _, rfl, _, _, rfl, tup0 _ _, _, rfl, wl_nil ⟨rfl, ?_⟩⟩)))))
 dsimp only
 refine ws_norm (ρ' := [.v (.tup (.str nm :: ps.map DPt.d)), .own (.lst ((nm :: ([] : List Int).map numStr).map .str)), .no, .no]) rfl ?_
 refine ws_seq (ws_for (wi_tup (wr_slT rfl ⟨_, _, rfl, _, _, rfl, _, rfl, rfl, _, rfl, ps.map DPt.d, by rw [cut1], ?_⟩)))
 refine ws_loop (fun j ρ => ∃ x, ρ = [.v (.tup (.str nm :: ps.map DPt.d)), .own (.lst ((nm :: ((ps.take j).flatMap DPt.ns).map numStr).map .str)), x, .no]) ⟨_, rfl⟩ ?_ ?_
 ·rintro j hj ρ ⟨x, rfl⟩
  have hj' : j < ps.length := by simpa using hj
  rw [List.getElem_map]
  refine ⟨_, rfl, ?_⟩
  refine ws_norm (ρ' := [.v (.tup (.str nm :: ps.map DPt.d)), .own (.lst ((nm :: ((ps.take j).flatMap DPt.ns).map numStr).map .str)), .v ps[j].d, .no]) rfl ?_
  have tk : ((ps.take (j + 1)).flatMap DPt.ns) = (ps.take j).flatMap DPt.ns ++ ps[j].ns := by
   rw [List.take_succ_eq_append_getElem hj', List.flatMap_append]
   simp
  have lt4 : ((ps.take j).flatMap DPt.ns).length ≤ 8 := by
   have := List.length_take_le' j ps
   have s1 := sum_map_le (ps.take j) (fun p => p.ns.length) 3 fun p _ => by cases p <;> simp [DPt.ns]
   rw [List.length_flatMap]
   omega
  have h40 := hm ps[j] (List.getElem_mem hj')
  cases e : ps[j] with
  | i n =>
   rw [e] at h40
   refine ws_if (wb_tst (wr_call1 ⟨_, _, rfl, _, rfl, _, isi_it, _, rfl, fun z => (by cases z), fun _ => ws_drop (wr_app rfl (wr_call (wl_cons ⟨_, _, rfl, _, rfl, wl_nil ⟨_, str_num (h40 n (by simp [DPt.ns])), _, rfl, _, rfl, by rw [List.length_map, List.length_cons, List.length_map]; omega, _, rfl, .v (.int n), ?_⟩⟩)))⟩))
   rw [tk, e, List.map_append]
   show ([_, Slot.own (.lst ((nm :: ((ps.take j).flatMap DPt.ns).map numStr).map .str ++ [.str (numStr n)])), _, _] : ME) = _
   simp [DPt.ns, DPt.d]
  | t p =>
   rw [e] at h40
   have hp : Num40 (DPt.t p).ns := h40
   refine ws_if (wb_tst (wr_call1 ⟨_, _, rfl, _, rfl, _, isi_tt, _, rfl, fun _ => ?_, fun z => by cases z⟩))
   refine ws_set1 (wr_op ⟨_, _, rfl, _, rfl, wr_lcI (wi_tup ⟨_, _, rfl, _, rfl, (DPt.t p).ns.map .int, rfl, rfl, by simp [DPt.ns], fun k acc ρ => acc = (((DPt.t p).ns.take k).map numStr).map D.str /\ ρ = [.v (.tup (.str nm :: ps.map DPt.d)), .v (.lst ((nm :: ((ps.take j).flatMap DPt.ns).map numStr).map .str)), .v (DPt.t p).d, .no], ⟨rfl, rfl⟩, ?_, ?_⟩)⟩)
   ·rintro k hk acc ρ ⟨rfl, rfl⟩
    have hk' : k < (DPt.t p).ns.length := by simpa using hk
    rw [List.getElem_map]
    refine ⟨_, rfl, wb_yes ⟨fun _ => ?_, fun z => by cases z⟩⟩
    refine wr_call (wl_cons ⟨_, _, rfl, _, rfl, wl_nil ⟨_, str_num (hp _ (List.getElem_mem hk')), _, rfl, ?_, rfl⟩⟩)
    rw [List.take_succ_eq_append_getElem hk', List.map_append, List.map_append]
    rfl
   ·rintro acc ρ2 ⟨rfl, rfl⟩
    rw [List.length_map, List.take_length]
    refine ⟨_, rfl, _, gAdd_l (by rw [List.length_map, List.length_cons, List.length_map, List.length_map, List.length_map]; show _ + 1 + 3 ≤ _; omega), rfl, .v (tD p), ?_⟩
    rw [tk, e]
    show ([_, Slot.own (.lst ((nm :: ((ps.take j).flatMap DPt.ns).map numStr).map .str ++ ((DPt.t p).ns.map numStr).map .str)), _, _] : ME) = _
    simp [DPt.d]
 ·rintro ρ ⟨x, rfl⟩
  rw [List.length_map, List.take_length]
  have rp := row_parts (nm := nm) h
  refine ws_ret (wr_join ⟨_, _, rfl, _, rfl, " ", rfl, _, _, rfl, _, rfl, nm :: (ps.flatMap DPt.ns).map numStr, rfl, ?_, rfl⟩)
  have c : (" " : Str).length = 1 := rfl
  rw [c]
  simp only [List.length_cons, List.length_map] at rp ⊢
  omega
theorem nms_free : ∀ x ∈ (["move", "sharpen", "smoothen", "fasten", "loosen", "split", "flip", "wish"] : List Str), 32 ∉ tl x := by decide +kernel
theorem nm_free (dd : Deed) : 32 ∉ tl dd.nm := nms_free dd.nm (by cases dd <;> simp [Deed.nm])
theorem words_row (dd : Deed) : words (rowOf dd.nm dd.ns) = dd.nm :: dd.ns.map numStr := by
 refine split_join (y := " ") (s := 32) (S := []) rfl (by decide +kernel) (by simp) fun p hp => ?_
 rcases List.mem_cons.mp hp with rfl | hp
 ·exact nm_free dd
 ·obtain ⟨n, _, rfl⟩ := List.mem_map.mp hp
  exact num_free (by decide) (by decide)
theorem read_row (dd : Deed) (h : ∀ n ∈ dd.ns, n.natAbs < 10000000) : readD (rowOf dd.nm dd.ns) = some dd.d := by
 unfold readD
 rw [words_row]
 dsimp only
 have e : (dd.ns.map numStr).map numIn = dd.ns.map some := by
  rw [List.map_map]
  exact List.map_congr_left fun n hn => numIn_num (h n hn)
 rw [e, if_pos]
 ·cases dd <;> rfl
 ·refine ⟨?_, by simp⟩
  cases dd <;> rfl
noncomputable def b_law_any_number : ME -> MS := (mSeq (mSet 1 (mIx (mLst (mCons (mC (.int 10)) (mCons (mC (.int 1000)) (mCons (mOp gPow (mC (.int 10)) (mC (.int 7))) mNil)))) (mFnX m_law_draw 0 (mCons (mC (.int 3)) mNil)))) (mRet (mOp gMulA (mFnX m_law_draw 0 (mCons (mVar 1) mNil)) (mOp gSub (mC (.int 1)) (mOp gMulA (mC (.int 2)) (mCall (g1 gInt) (mCons (mOp gEq (mFnX m_law_draw 0 (mCons (mC (.int 4)) mNil)) (mC (.int 0))) mNil)))))))
noncomputable def m_law_any_number : MF := fnM 1 b_law_any_number
noncomputable def b_law_any_deed : ME -> MS := (mSeq (mSet 1 (mLst (mCons (mC (.str "move")) (mCons (mC (.str "split")) (mCons (mC (.str "sharpen")) (mCons (mC (.str "smoothen")) (mCons (mC (.str "fasten")) (mCons (mC (.str "loosen")) (mCons (mC (.str "flip")) (mCons (mC (.str "wish")) mNil)))))))))) (mSeq (mSet 2 (mIxV 1 (mFnX m_law_draw 0 (mCons (mC (.int 8)) mNil)))) (mSeq (mIfS (mTst (mOp gInA (mVar 2) (mTup (mCons (mC (.str "move")) (mCons (mC (.str "split")) mNil)))))
 (mRet (mTup (mCons (mVar 2) (mCons (mFnX m_law_any_number 0 mNil) (mCons (mCall (g1 gTuple) (mCons (mLc (mRng1 (mCons (mC (.int 3)) mNil)) (tgName 3) mYes (mFnX m_law_any_number 0 mNil) [3]) mNil)) mNil)))))
 mSkip) (mSeq (mIfS (mTst (mOp gInA (mVar 2) (mTup (mCons (mC (.str "fasten")) (mCons (mC (.str "loosen")) mNil)))))
 (mRet (mTup (mCons (mVar 2) (mCons (mFnX m_law_any_number 0 mNil) mNil))))
 mSkip) (mRet (mTup (mCons (mVar 2) (mCons (mFnX m_law_any_number 0 mNil) (mCons (mFnX m_law_any_number 0 mNil) mNil)))))))))
noncomputable def m_law_any_deed : MF := fnM 3 b_law_any_deed
noncomputable def b_law_spoilt_row : ME -> MS := (mSeq (mSet 2 (mC (.str " !#&()*+,-./0123456789:;<=>?@ABCDEFGHIJKLMNOPQRSTUVWXYZ[]^_abcdefghijklmnopqrstuvwxyz{|}~"))) (mSeq (mSet 3 (mIxV 2 (mFnX m_law_draw 0 (mCons (mCallV gLen 2) mNil)))) (mSeq (mIfS (mTst (mOp gEq (mFnX m_law_draw 0 (mCons (mC (.int 2)) mNil)) (mC (.int 0))))
 (mSet 3 (mIx (mLst (mCons (mC (.str " ")) (mCons (mC (.str "0")) (mCons (mC (.str "1")) (mCons (mC (.str "-")) (mCons (mC (.str "9")) (mCons (mC (.str "s")) mNil))))))) (mFnX m_law_draw 0 (mCons (mC (.int 6)) mNil))))
 mSkip) (mSeq (mSet 4 (mFnX m_law_draw 0 (mCons (mOp gAdd (mCallV gLen 1) (mC (.int 1))) mNil))) (mSeq (mSet 5 (mSplit (mVar 1) (mC (.str " ")))) (mSeq (mSet 6 (mFnX m_law_draw 0 (mCons (mCallV gLen 5) mNil))) (mSeq (mSet 7 (mFnX m_law_draw 0 (mCons (mC (.int 7)) mNil))) (mSeq (mIfS (mTst (mOp gEq (mVar 7) (mC (.int 0))))
 (mRet (mOp gAdd (mOp gAdd (mSlV 1 mNoPart (mPart (mVar 4))) (mVar 3)) (mSlV 1 (mPart (mVar 4)) mNoPart)))
 mSkip) (mSeq (mIfS (mTst (mOp gEq (mVar 7) (mC (.int 1))))
 (mRet (mOp gAdd (mSlV 1 mNoPart (mPart (mVar 4))) (mSlV 1 (mPart (mOp gAdd (mVar 4) (mC (.int 1)))) mNoPart)))
 mSkip) (mSeq (mIfS (mTst (mOp gEq (mVar 7) (mC (.int 2))))
 (mRet (mOp gAdd (mOp gAdd (mSlV 1 mNoPart (mPart (mVar 4))) (mVar 3)) (mSlV 1 (mPart (mOp gAdd (mVar 4) (mC (.int 1)))) mNoPart)))
 mSkip) (mSeq (mIfS (mTst (mOp gEq (mVar 7) (mC (.int 3))))
 (mSet 5 (mOp gAdd (mSlV 5 mNoPart (mPart (mVar 6))) (mSlV 5 (mPart (mOp gAdd (mVar 6) (mC (.int 1)))) mNoPart)))
 mSkip) (mSeq (mIfS (mTst (mOp gEq (mVar 7) (mC (.int 4))))
 (mSet 5 (mOp gAdd (mOp gAdd (mSlV 5 mNoPart (mPart (mVar 6))) (mLst (mCons (mIxV 5 (mVar 6)) mNil))) (mSlV 5 (mPart (mVar 6)) mNoPart)))
 mSkip) (mSeq (mIfS (mTst (mOp gEq (mVar 7) (mC (.int 5))))
 (mSeq (mSet 8 (mLst (mCons (mC (.str "0")) (mCons (mC (.str "00")) (mCons (mC (.str "-0")) (mCons (mC (.str "07")) (mCons (mC (.str "-1")) (mCons (mC (.str "")) (mCons (mC (.str "corner")) (mCons (mC (.str "face")) (mCons (mC (.str "1001")) (mCons (mC (.str "10000000")) (mCons (mC (.str "move")) (mCons (mC (.str "fast")) (mCons (mC (.str "deeds")) mNil))))))))))))))) (mSub 5 (mVar 6) (mIxV 8 (mFnX m_law_draw 0 (mCons (mC (.int 13)) mNil)))))
 mSkip) (mSeq (mIfS (mTst (mOp gEq (mVar 7) (mC (.int 6))))
 (mSub2 5 (mVar 6) (mC (.int 0)) (mCons (mIxV 5 (mC (.int 0))) (mCons (mIxV 5 (mVar 6)) mNil)))
 mSkip) (mRet (mJoin (mC (.str " ")) (mVar 5)))))))))))))))))
noncomputable def m_law_spoilt_row : MF := fnM 7 b_law_spoilt_row
theorem spl_sum (S : List Nat) : ∀ (l : List Nat) (k : Nat) (acc : List Nat), ((spl S k acc l).map List.length).sum ≤ acc.length + l.length
 | [], k, acc => by rw [spl_nil]; simp
 | c :: r, 0, acc => by
  unfold spl
  split
  ·have := spl_sum S r (S.length - 1) []
   simp at this ⊢; omega
  ·have := spl_sum S r 0 (acc ++ [c])
   simp at this ⊢; omega
 | c :: r, k + 1, acc => by
  unfold spl
  have := spl_sum S r k acc
  simp; omega
def sumL (L : List Str) : Nat := (L.map (·.length)).sum
theorem words_sum (w : Str) : sumL (words w) ≤ w.length := by
 have e : sumL (words w) = (((words w).map tl).map List.length).sum := by
  unfold sumL
  rw [List.map_map]
  congr 1
 rw [e, words_spl, len_tl]
 have := spl_sum [32] (tl w) 0 []
 simpa using this
theorem sumL_app (A B : List Str) : sumL (A ++ B) = sumL A + sumL B := by
 unfold sumL
 rw [List.map_append, List.sum_append]
theorem sumL_cut (L : List Str) (a : Nat) : sumL (L.take a) + sumL (L.drop a) = sumL L := by
 rw [<- sumL_app, List.take_append_drop]
theorem sumL_drop {L : List Str} {a : Nat} (h : a < L.length) : sumL (L.drop a) = L[a].length + sumL (L.drop (a + 1)) := by
 rw [List.drop_eq_getElem_cons h]
 rfl
theorem sumL_set {L : List Str} {a : Nat} (h : a < L.length) (x : Str) : sumL (L.set a x) + L[a].length = sumL L + x.length := by
 have e : L.set a x = L.take a ++ x :: L.drop (a + 1) := List.set_eq_take_append_cons_drop.trans (by rw [if_pos h])
 have c := sumL_cut L a
 have d := sumL_drop h
 rw [e, sumL_app]
 show sumL (L.take a) + (x.length + sumL (L.drop (a + 1))) + _ = _
 omega
theorem sumL_at {L : List Str} {a : Nat} (h : a < L.length) : L[a].length ≤ sumL L := by
 have c := sumL_cut L a
 have d := sumL_drop h
 omega
theorem ix_strN {z : Str} (h : z.length ≤ 16777216) {k : Nat} (hk : k < (tl z).length) : gIx (.str z) (.int (k : Nat)) = some (signD (tl z)[k]) := by
 have hz : z.length ≤ sizeLine := by rw [sizeLine_eq]; exact h
 unfold gIx
 dsimp only
 rw [if_pos hz]
 show (atI (tl z) (k : Nat)).map _ = _
 rw [atI_nat (List.getElem?_eq_getElem hk)]
 rfl
theorem gAdd_s {a b : Str} (h : a.length + b.length ≤ 16777216) : gAdd (.str a) (.str b) = some (.v (.str (a ++ b))) := by
 have hz : a.length + b.length ≤ sizeLine := by rw [sizeLine_eq]; exact h
 show (if a.length + b.length ≤ sizeLine then some (Slot.v (.str (a ++ b))) else none) = _
 rw [if_pos hz]
theorem len_app (a b : Str) : (a ++ b).length = a.length + b.length := by
 rw [len_tl, tl_append, List.length_append, len_tl, len_tl]
theorem ws_no {i : Nat} {k m : Int} {a b : ME -> MS} {ρ : ME} {QS : Fl -> Prop} (e : ρ[i]? = some (.v (.int k))) (ne : k ≠ m) (h : WS (b ρ) QS) : WS (mSeq (mIfS (mTst (mOp gEq (mVar i) (mC (.int m)))) a mSkip) b ρ) QS :=
 ws_seq (ws_if (wb_tst (wr_op (wr_v e ⟨_, rfl, _, _, rfl, _, rfl, _, eq_i, _, rfl, fun z => absurd (of_decide_eq_true z) ne, fun _ => ws_skip h⟩))))
theorem sign1 {c : Nat} : (⟨#[c]⟩ : Str).length = 1 := rfl
theorem spoilt_row_wr {d : D} {w : Str} (hd : Bx d) (hw : w.length < 10000) : WR (m_law_spoilt_row [.box d, .v (.str w)]) fun s x => ∃ (w' : Str) (d' : D) (x' : List Slot), s = .v (.str w') /\ x = .box d' :: x' /\ Bx d' /\ w'.length ≤ 3 * w.length + 20 := by
  unfold m_law_spoilt_row b_law_spoilt_row
  generalize hsg : (" !#&()*+,-./0123456789:;<=>?@ABCDEFGHIJKLMNOPQRSTUVWXYZ[]^_abcdefghijklmnopqrstuvwxyz{|}~" : Str) = SG
  have sl : SG.length = 89 := by rw [<- hsg]; decide +kernel
  have wf := words_few w
  have ws := words_sum w
  have wn := words_ne w
  refine wr_fnM (ws_seq (ws_set1 ⟨_, _, rfl, rfl, ?_⟩))
  dsimp only
  refine ws_norm (ρ' := [.box d, .v (.str w), .v (.str SG), .no, .no, .no, .no, .no, .no]) rfl ?_
  refine ws_seq (ws_set1 (wr_ixV rfl (draw_e (m := ((SG.length : Nat) : Int)) hd (smN_of (by omega) (by omega)) (wr_callV rfl ⟨_, len_str (by omega), rfl, rfl⟩) fun r d1 r0 r1 b1 => ?_)))
  obtain ⟨k, rfl⟩ := Int.eq_ofNat_of_zero_le r0
  have hk : k < (tl SG).length := by rw [<- len_tl]; omega
  refine ⟨_, rfl, _, _, rfl, ix_strN (by omega) hk, rfl, ?_⟩
  generalize (tl SG)[k] = c
  dsimp only
  refine ws_norm (ρ' := [.box d1, .v (.str w), .v (.str SG), .v (.str ⟨#[c]⟩), .no, .no, .no, .no, .no]) rfl ?_
  refine ws_cut (fun ρ => ∃ d sg, ρ = [.box d, .v (.str w), .v (.str SG), .v (.str sg), .no, .no, .no, .no, .no] /\ Bx d /\ sg.length ≤ 1) ?_ ?_
  · refine ws_if (wb_tst (wr_op (draw_c b1 (by constructor <;> decide) fun z d2 z0 z1 b2 => ⟨_, rfl, _, _, rfl, _, rfl, _, eq_i, _, rfl, fun _ => ?_, fun _ => ws_skip ⟨_, rfl, d2, _, rfl, b2, by rw [sign1]; decide⟩⟩)))
    refine ws_set1 (wr_ix (wr_lst ?_))
    refine wl_cons ⟨_, _, rfl, _, rfl, wl_cons ⟨_, _, rfl, _, rfl, wl_cons ⟨_, _, rfl, _, rfl, wl_cons ⟨_, _, rfl, _, rfl, wl_cons ⟨_, _, rfl, _, rfl, wl_cons ⟨_, _, rfl, _, rfl, wl_nil ⟨_, rfl, draw_c b2 (by constructor <;> decide) fun r d3 r0 r1 b3 => ?_⟩⟩⟩⟩⟩⟩⟩
    obtain ⟨sg, es, ls⟩ : ∃ sg : Str, gIx (.lst [.str " ", .str "0", .str "1", .str "-", .str "9", .str "s"]) (.int r) = some (.str sg) /\ sg.length ≤ 1 := by
      have : r = 0 \/ r = 1 \/ r = 2 \/ r = 3 \/ r = 4 \/ r = 5 := by omega
      rcases this with rfl | rfl | rfl | rfl | rfl | rfl <;> exact ⟨_, rfl, Nat.le_of_ble_eq_true rfl⟩
    exact ⟨_, rfl, _, es, rfl, _, rfl, d3, sg, rfl, b3, ls⟩
  rintro ρ ⟨d2, sg, rfl, b2, lsg⟩
  refine ws_seq (ws_set1 (draw_e (m := ((w.length : Nat) : Int) + 1) b2 ⟨by omega, by omega⟩ (wr_op (wr_callV rfl ⟨_, len_str (by omega), _, rfl, _, _, rfl, _, rfl, _, rfl, rfl, rfl⟩)) fun pl d3 pl0 pl1 b3 => ⟨rfl, ?_⟩))
  dsimp only
  refine ws_norm (ρ' := [.box d3, .v (.str w), .v (.str SG), .v (.str sg), .v (.int pl), .no, .no, .no, .no]) rfl ?_
  refine ws_seq (ws_set1 (splitw_wr ⟨_, _, rfl, _, rfl, rfl, rfl, ?_⟩ (by omega)))
  dsimp only
  refine ws_norm (ρ' := [.box d3, .v (.str w), .v (.str SG), .v (.str sg), .v (.int pl), .own (.lst ((words w).map .str)), .no, .no, .no]) rfl ?_
  have wl : ((words w).map D.str).length = (words w).length := List.length_map _
  have wp : 0 < (words w).length := List.length_pos_iff.mpr wn
  generalize words w = L at *
  refine ws_seq (ws_set1 (draw_e (m := (((L.map D.str).length : Nat) : Int)) b3 ⟨by omega, by omega⟩ (wr_callV rfl ⟨_, len_lst _, rfl, rfl⟩) fun a d4 a0 a1 b4 => ⟨rfl, ?_⟩))
  dsimp only
  refine ws_norm (ρ' := [.box d4, .v (.str w), .v (.str SG), .v (.str sg), .v (.int pl), .own (.lst (L.map .str)), .v (.int a), .no, .no]) rfl ?_
  refine ws_seq (ws_set1 (draw_c b4 (by constructor <;> decide) fun way d5 w0 w1 b5 => ⟨rfl, ?_⟩))
  dsimp only
  refine ws_norm (ρ' := [.box d5, .v (.str w), .v (.str SG), .v (.str sg), .v (.int pl), .own (.lst (L.map .str)), .v (.int a), .v (.int way), .no]) rfl ?_
  obtain ⟨pl, rfl⟩ := Int.eq_ofNat_of_zero_le pl0
  obtain ⟨a, rfl⟩ := Int.eq_ofNat_of_zero_le a0
  have ha : a < L.length := by omega
  have rets : ∀ (u : Str) (ρ : ME) (x' : List Slot), ρ = .box d5 :: x' -> u.length ≤ 3 * w.length + 20 -> ∃ (w' : Str) (d' : D) (x' : List Slot), Slot.v (.str u) = .v (.str w') /\ ρ = .box d' :: x' /\ Bx d' /\ w'.length ≤ 3 * w.length + 20 := fun u ρ x' e h => ⟨u, d5, x', rfl, e, b5, h⟩
  have cl : ∀ lo hi, (cutS w lo hi).length ≤ w.length := cutS_length w
  have : way = 0 \/ way = 1 \/ way = 2 \/ way = 3 \/ way = 4 \/ way = 5 \/ way = 6 := by omega
  rcases this with rfl | rfl | rfl | h
  · refine ws_seq (ws_if (wb_tst (wr_op ⟨_, _, rfl, _, rfl, _, _, rfl, _, rfl, _, eq_i, _, rfl, fun _ => ?_, fun z => absurd z (by decide)⟩)))
    have c1 := cl none (some (pl : Nat))
    have c2 := cl (some (pl : Nat)) none
    refine ws_ret (wr_op (wr_op (wr_slS rfl (by omega) ⟨_, _, rfl, _, _, rfl, rfl, _, rfl, _, _, rfl, _, rfl, _, gAdd_s (by omega), _, rfl, wr_slS rfl (by omega) ⟨_, _, rfl, _, _, rfl, rfl, _, rfl, _, gAdd_s (by rw [len_app]; omega), rets _ _ _ rfl ?_⟩⟩)))
    rw [len_app, len_app]; omega
  · refine ws_no rfl (by decide) ?_
    refine ws_seq (ws_if (wb_tst (wr_op ⟨_, _, rfl, _, rfl, _, _, rfl, _, rfl, _, eq_i, _, rfl, fun _ => ?_, fun z => absurd z (by decide)⟩)))
    have c1 := cl none (some (pl : Nat))
    have c2 := cl (some ((pl : Int) + 1)) none
    refine ws_ret (wr_op (wr_slS rfl (by omega) ⟨_, _, rfl, _, _, rfl, rfl, _, rfl, wr_slS rfl (by omega) ⟨_, _, rfl, _, _, rfl, rfl, _, rfl, _, gAdd_s (by omega), rets _ _ _ rfl ?_⟩⟩))
    rw [len_app]; omega
  · refine ws_no rfl (by decide) (ws_no rfl (by decide) ?_)
    refine ws_seq (ws_if (wb_tst (wr_op ⟨_, _, rfl, _, rfl, _, _, rfl, _, rfl, _, eq_i, _, rfl, fun _ => ?_, fun z => absurd z (by decide)⟩)))
    have c1 := cl none (some (pl : Nat))
    have c2 := cl (some ((pl : Int) + 1)) none
    refine ws_ret (wr_op (wr_op (wr_slS rfl (by omega) ⟨_, _, rfl, _, _, rfl, rfl, _, rfl, _, _, rfl, _, rfl, _, gAdd_s (by omega), _, rfl, wr_slS rfl (by omega) ⟨_, _, rfl, _, _, rfl, rfl, _, rfl, _, gAdd_s (by rw [len_app]; omega), rets _ _ _ rfl ?_⟩⟩)))
    rw [len_app, len_app]; omega
  have fin : ∀ (d5 : D) (b5 : Bx d5) (L' : List Str) (x8 : Slot), sumL L' ≤ 2 * w.length + 8 -> L'.length ≤ w.length + 3 -> WS (mRet (mJoin (mC (.str " ")) (mVar 5)) [.box d5, .v (.str w), .v (.str SG), .v (.str sg), .v (.int (pl : Nat)), .own (.lst (L'.map .str)), .v (.int (a : Nat)), .v (.int way), x8]) fun f => match f with
      | .rt s x => ∃ (w' : Str) (d' : D) (x' : List Slot), s = .v (.str w') /\ x = .box d' :: x' /\ Bx d' /\ w'.length ≤ 3 * w.length + 20
      | .nx x => ∃ (w' : Str) (d' : D) (x' : List Slot), Slot.v .non = .v (.str w') /\ x = .box d' :: x' /\ Bx d' /\ w'.length ≤ 3 * w.length + 20
      | _ => False := by
    intro d5 b5 L' x8 h1 h2
    have c : (" " : Str).length = 1 := rfl
    refine ws_ret (wr_join ⟨_, _, rfl, _, rfl, " ", rfl, _, _, rfl, _, rfl, L', rfl, ?_, ⟨_, d5, _, rfl, rfl, b5, ?_⟩⟩)
    · rw [c]
      show sumL L' + _ ≤ _
      omega
    · rw [join_eq]
      have j := join_len " " L'
      rw [c] at j
      have j : _ ≤ sumL L' + _ := j
      omega
  have ct := cut_to (f := D.str) (L := L) (i := a) (by omega)
  have cf := cut_from (f := D.str) (L := L) (i := a) (by omega)
  have cf1 := cut_from (f := D.str) (L := L) (i := a + 1) (by omega)
  have sc := sumL_cut L a
  have sd := sumL_drop ha
  have sa := sumL_at ha
  refine ws_no rfl (by omega) (ws_no rfl (by omega) (ws_no rfl (by omega) ?_))
  rcases h with rfl | rfl | rfl | rfl
  · refine ws_seq (ws_if (wb_tst (wr_op ⟨_, _, rfl, _, rfl, _, _, rfl, _, rfl, _, eq_i, _, rfl, fun _ => ?_, fun z => absurd z (by decide)⟩)))
    refine ws_set1 (wr_op (wr_slL rfl ⟨_, _, rfl, _, _, rfl, _, rfl, _, rfl, wr_slL rfl ⟨_, _, rfl, _, _, rfl, _, rfl, _, rfl, ?_⟩⟩))
    rw [ct, show cutD (L.map D.str) (some ((a : Int) + 1)) none = (L.drop (a + 1)).map D.str from cf1]
    refine ⟨_, gAdd_l (by simp; omega), rfl, ?_⟩
    rw [<- List.map_append]
    refine ws_no rfl (by decide) (ws_no rfl (by decide) (ws_no rfl (by decide) (fin d5 b5 _ _ ?_ ?_)))
    · rw [sumL_app]; omega
    · simp; omega
  · refine ws_no rfl (by decide) ?_
    refine ws_seq (ws_if (wb_tst (wr_op ⟨_, _, rfl, _, rfl, _, _, rfl, _, rfl, _, eq_i, _, rfl, fun _ => ?_, fun z => absurd z (by decide)⟩)))
    refine ws_set1 (wr_op (wr_op (wr_slL rfl ⟨_, _, rfl, _, _, rfl, _, rfl, _, rfl, wr_lst (wl_cons (wr_ixV rfl ⟨_, _, rfl, _, rfl, _, _, rfl, ix_nat (ds := L.map D.str) (k := a) (by omega), _, rfl, wl_nil ⟨_, rfl, ?_⟩⟩))⟩)))
    rw [ct, List.getElem_map]
    refine ⟨_, gAdd_l (by simp; omega), _, rfl, wr_slL rfl ⟨_, _, rfl, _, _, rfl, _, rfl, _, rfl, ?_⟩⟩
    rw [cf]
    refine ⟨_, gAdd_l (by simp; omega), rfl, ?_⟩
    rw [show (L.take a).map D.str ++ [D.str L[a]] ++ (L.drop a).map D.str = (L.take a ++ [L[a]] ++ L.drop a).map D.str by rw [List.map_append, List.map_append]; rfl]
    refine ws_no rfl (by decide) (ws_no rfl (by decide) (fin d5 b5 _ _ ?_ ?_))
    · rw [sumL_app, sumL_app]
      show sumL (L.take a) + (L[a].length + 0) + _ ≤ _
      omega
    · simp; omega
  · refine ws_no rfl (by decide) (ws_no rfl (by decide) ?_)
    refine ws_seq (ws_if (wb_tst (wr_op ⟨_, _, rfl, _, rfl, _, _, rfl, _, rfl, _, eq_i, _, rfl, fun _ => ?_, fun z => absurd z (by decide)⟩)))
    refine ws_seq (ws_set1 (wr_lst ?_))
    refine wl_cons ⟨_, _, rfl, _, rfl, wl_cons ⟨_, _, rfl, _, rfl, wl_cons ⟨_, _, rfl, _, rfl, wl_cons ⟨_, _, rfl, _, rfl, wl_cons ⟨_, _, rfl, _, rfl, wl_cons ⟨_, _, rfl, _, rfl, wl_cons ⟨_, _, rfl, _, rfl, wl_cons ⟨_, _, rfl, _, rfl, wl_cons ⟨_, _, rfl, _, rfl, wl_cons ⟨_, _, rfl, _, rfl, wl_cons ⟨_, _, rfl, _, rfl, wl_cons ⟨_, _, rfl, _, rfl, wl_cons ⟨_, _, rfl, _, rfl, wl_nil ⟨rfl, ?_⟩⟩⟩⟩⟩⟩⟩⟩⟩⟩⟩⟩⟩⟩
    dsimp only
    refine ws_norm (ρ' := [.box d5, .v (.str w), .v (.str SG), .v (.str sg), .v (.int (pl : Nat)), .own (.lst (L.map .str)), .v (.int (a : Nat)), .v (.int 5), .own (.lst [.str "0", .str "00", .str "-0", .str "07", .str "-1", .str "", .str "corner", .str "face", .str "1001", .str "10000000", .str "move", .str "fast", .str "deeds"])]) rfl ?_
    refine ws_sub (wr_ixV rfl (draw_c b5 (by constructor <;> decide) fun r d6 r0 r1 b6 => ?_))
    obtain ⟨u, eu, lu⟩ : ∃ u : Str, gIx (.lst [.str "0", .str "00", .str "-0", .str "07", .str "-1", .str "", .str "corner", .str "face", .str "1001", .str "10000000", .str "move", .str "fast", .str "deeds"]) (.int r) = some (.str u) /\ u.length ≤ 8 := by
      have : r = 0 \/ r = 1 \/ r = 2 \/ r = 3 \/ r = 4 \/ r = 5 \/ r = 6 \/ r = 7 \/ r = 8 \/ r = 9 \/ r = 10 \/ r = 11 \/ r = 12 := by omega
      rcases this with rfl | rfl | rfl | rfl | rfl | rfl | rfl | rfl | rfl | rfl | rfl | rfl | rfl <;> exact ⟨_, rfl, Nat.le_of_ble_eq_true rfl⟩
    refine ⟨_, rfl, _, _, rfl, eu, _, rfl, _, rfl, _, _, rfl, _, rfl, _, _, rfl, set_nat (by omega), ?_⟩
    rw [show (L.map D.str).set a (.str u) = (L.set a u).map D.str from List.map_set.symm]
    have ss := sumL_set ha u
    exact ws_no rfl (by decide) (fin d6 b6 _ _ (by omega) (by simp; omega))
  · refine ws_no rfl (by decide) (ws_no rfl (by decide) (ws_no rfl (by decide) ?_))
    refine ws_seq (ws_if (wb_tst (wr_op ⟨_, _, rfl, _, rfl, _, _, rfl, _, rfl, _, eq_i, _, rfl, fun _ => ?_, fun z => absurd z (by decide)⟩)))
    have x0 : gIx (.lst (L.map D.str)) (.int 0) = some ((L.map D.str)[0]'(by omega)) := ix_nat (ds := L.map D.str) (k := 0) (by omega)
    refine ws_sub2 (wl_cons (wr_ixV rfl ⟨_, _, rfl, _, rfl, _, _, rfl, x0, _, rfl, wl_cons (wr_ixV rfl ⟨_, _, rfl, _, rfl, _, _, rfl, ix_nat (ds := L.map D.str) (k := a) (by omega), _, rfl, wl_nil ⟨_, _, _, rfl, rfl, _, _, rfl, _, rfl, _, _, rfl, set_nat (by omega), _, rfl, _, _, rfl, _, rfl, _, _, rfl, set_nat (k := 0) (by simp; omega), ?_⟩⟩)⟩))
    have e0 : (L.map D.str)[0]'(by omega) = .str (L[0]'wp) := List.getElem_map _
    have ea : (L.map D.str)[a]'(by omega) = .str L[a] := List.getElem_map _
    rw [e0, ea, show ((L.map D.str).set a (.str (L[0]'wp))).set 0 (.str L[a]) = ((L.set a (L[0]'wp)).set 0 L[a]).map D.str by rw [List.map_set, List.map_set]]
    have s1 := sumL_set ha (L[0]'wp)
    have l1 : 0 < (L.set a (L[0]'wp)).length := by rw [List.length_set]; exact wp
    have s2 := sumL_set l1 L[a]
    have g0 : (L.set a (L[0]'wp))[0] = L[0]'wp := by
      rw [List.getElem_set]
      split <;> rfl
    rw [g0] at s2
    exact fin d5 b5 _ _ (by omega) (by simp; omega)
section
variable {d : D} {t : ME} {Q : Slot -> ME -> Prop}
theorem any_number_wr (hd : Bx d) : WR (m_law_any_number [.box d]) fun s x => ∃ (n : Int) (d' : D) (x' : List Slot), s = .v (.int n) /\ x = .box d' :: x' /\ Bx d' /\ n.natAbs < 10000000 := by
 unfold m_law_any_number b_law_any_number
 refine wr_fnM (ws_seq (ws_set1 (wr_ix (wr_lst (wl_cons ⟨_, _, rfl, _, rfl, wl_cons ⟨_, _, rfl, _, rfl, wl_cons (wr_op ⟨_, _, rfl, _, rfl, _, _, rfl, _, rfl, .v (.int 10000000), rfl, _, rfl, wl_nil ⟨_, rfl, draw_c hd (by constructor <;> decide) fun r d1 r0 r1 b1 => ?_⟩⟩)⟩⟩)))))
 obtain ⟨m, em, m0, m1⟩ : ∃ m : Int, gIx (.lst [.int 10, .int 1000, .int 10000000]) (.int r) = some (.int m) /\ 0 < m /\ m ≤ 10000000 := by
  have : r = 0 \/ r = 1 \/ r = 2 := by omega
  rcases this with rfl | rfl | rfl <;> exact ⟨_, rfl, by decide, by decide⟩
 refine ⟨_, rfl, _, em, rfl, ?_⟩
 dsimp only
 refine ws_norm (ρ' := [.box d1, .v (.int m)]) rfl ?_
 refine ws_ret (wr_op (draw_e (m := m) b1 ⟨m0, by omega⟩ ⟨_, _, rfl, rfl, rfl⟩ fun r d2 r0 r1 b2 => ⟨_, rfl, ?_⟩))
 refine wr_op ⟨_, _, rfl, _, rfl, wr_op ⟨_, _, rfl, _, rfl, wr_call (wl_cons (wr_op (draw_c b2 (by constructor <;> decide) fun z d3 z0 z1 b3 => ⟨_, rfl, _, _, rfl, _, rfl, _, eq_i, _, rfl, wl_nil ⟨.v (.int (if decide (z = 0) then 1 else 0)), rfl, ?_⟩⟩)))⟩⟩
 obtain ⟨e, he, hs⟩ : ∃ e : Int, (if decide (z = 0) then (1 : Int) else 0) = e /\ (e = 0 \/ e = 1) := by
  by_cases h : z = 0
  ·exact ⟨1, by rw [decide_eq_true h]; rfl, .inr rfl⟩
  ·exact ⟨0, by rw [decide_eq_false h]; rfl, .inl rfl⟩
 rw [he]
 refine ⟨_, rfl, .v (.int (2 * e)), gMul_l (by decide) (by omega), _, rfl, .v (.int (1 - 2 * e)), rfl, _, rfl, .v (.int (r * (1 - 2 * e))), ?_, r * (1 - 2 * e), d3, _, rfl, rfl, b3, ?_⟩
 ·exact gMul_l (by omega) (by omega)
 ·rcases hs with rfl | rfl
  ·omega
  ·omega
theorem any_number_e (hd : Bx d) (q : ∀ (n : Int) d', n.natAbs < 10000000 -> Bx d' -> Q (.v (.int n)) (.box d' :: t)) : WR (mFnX m_law_any_number 0 mNil (.box d :: t)) Q := by
 refine wr_fnX rfl (wl_nil ⟨d, rfl, (any_number_wr hd).mono ?_⟩)
 rintro s x ⟨n, d', x', rfl, rfl, b, h⟩
 exact ⟨⟨_, rfl⟩, d', x', rfl, q n d' h b⟩
theorem any_deed_wr (hd : Bx d) : WR (m_law_any_deed [.box d]) fun s x => ∃ (dd : Deed) (d' : D) (x' : List Slot), s = .v dd.d /\ x = .box d' :: x' /\ Bx d' /\ ∀ n ∈ dd.ns, n.natAbs < 10000000 := by
 unfold m_law_any_deed b_law_any_deed
 refine wr_fnM (ws_seq (ws_set1 (wr_lst ?_)))
 refine wl_cons ⟨_, _, rfl, _, rfl, wl_cons ⟨_, _, rfl, _, rfl, wl_cons ⟨_, _, rfl, _, rfl, wl_cons ⟨_, _, rfl, _, rfl, wl_cons ⟨_, _, rfl, _, rfl, wl_cons ⟨_, _, rfl, _, rfl, wl_cons ⟨_, _, rfl, _, rfl, wl_cons ⟨_, _, rfl, _, rfl, wl_nil ⟨rfl, ?_⟩⟩⟩⟩⟩⟩⟩⟩⟩
 dsimp only
 refine ws_norm (ρ' := [.box d, .own (.lst [.str "move", .str "split", .str "sharpen", .str "smoothen", .str "fasten", .str "loosen", .str "flip", .str "wish"]), .no, .no]) rfl ?_
 refine ws_seq (ws_set1 (wr_ixV rfl (draw_c hd (by constructor <;> decide) fun r d1 r0 r1 b1 => ?_)))
 obtain ⟨nm, k, en, hk⟩ : ∃ (nm : Str) (k : Nat), gIx (.lst [.str "move", .str "split", .str "sharpen", .str "smoothen", .str "fasten", .str "loosen", .str "flip", .str "wish"]) (.int r) = some (.str nm) /\ szN nm = some k := by
  have : r = 0 \/ r = 1 \/ r = 2 \/ r = 3 \/ r = 4 \/ r = 5 \/ r = 6 \/ r = 7 := by omega
  rcases this with rfl | rfl | rfl | rfl | rfl | rfl | rfl | rfl <;> exact ⟨_, _, rfl, rfl⟩
 refine ⟨_, rfl, _, _, rfl, en, rfl, ?_⟩
 dsimp only
 generalize D.lst [.str "move", .str "split", .str "sharpen", .str "smoothen", .str "fasten", .str "loosen", .str "flip", .str "wish"] = NL
 refine ws_norm (ρ' := [.box d1, .own NL, .v (.str nm), .no]) rfl ?_
 refine ws_seq (ws_if (wb_tst (wr_op ⟨_, _, rfl, _, rfl, wr_tup (wl_cons ⟨_, _, rfl, _, rfl, wl_cons ⟨_, _, rfl, _, rfl, wl_nil ⟨_, rfl, _, ms_in hk, _, rfl, fun em => ?_, fun em => ws_skip ?_⟩⟩⟩)⟩)))
 ·refine ws_ret (wr_tup (wl_cons ⟨_, _, rfl, _, rfl, wl_cons (any_number_e b1 fun a d2 ha b2 => ⟨_, rfl, wl_cons (wr_call (wl_cons (wr_lcI (wi_rng (wl_cons ⟨_, _, rfl, _, rfl, wl_nil ⟨3, rfl, rfl, rfl, by rw [rngL_len]; decide, ?_⟩⟩)))))⟩)⟩))
  refine ⟨fun j acc ρ => ∃ d vs, ρ = [.box d, .own NL, .v (.str nm), .no] /\ Bx d /\ acc = vs.map D.int /\ vs.length = j /\ ∀ n ∈ vs, n.natAbs < 10000000, ⟨d2, [], rfl, b2, rfl, rfl, fun n hn => (by cases hn)⟩, ?_, ?_⟩
  ·rintro j hj acc ρ ⟨d3, vs, rfl, b3, rfl, hvl, hv⟩
   refine ⟨_, rfl, wb_yes ⟨fun _ => any_number_e b3 fun n d4 hn b4 => ⟨_, rfl, d4, vs ++ [n], rfl, b4, by simp, by simp [hvl], fun z hz => ?_⟩, fun z => by cases z⟩⟩
   rcases List.mem_append.mp hz with h | h
   ·exact hv z h
   ·rw [List.mem_singleton.mp h]; exact hn
  ·rintro acc ρ2 ⟨d3, vs, rfl, b3, rfl, hvl, hv⟩
   have hvl3 : vs.length = 3 := by rw [hvl, rngL_len]; rfl
   match vs, hvl3 with
   | [x, y, z], _ =>
    have hx := hv x (by simp)
    have hy := hv y (by simp)
    have hz := hv z (by simp)
    refine ⟨_, rfl, wl_nil ⟨_, rfl, _, rfl, wl_nil ?_⟩⟩
    rcases sz_cases hk with ⟨rfl, _⟩ | ⟨rfl, _⟩ | ⟨rfl, _⟩ | ⟨rfl, _⟩ | ⟨rfl, _⟩ | ⟨rfl, _⟩ | ⟨rfl, _⟩ | ⟨rfl, _⟩ <;> first | (exact absurd em (by decide +kernel)) | skip
    ·exact ⟨.mv a (x, y, z), d3, _, rfl, rfl, b3, fun n hn => by simp [Deed.ns, Deed.prt, DPt.ns] at hn; rcases hn with rfl | rfl | rfl | rfl <;> assumption⟩
    ·exact ⟨.sp a (x, y, z), d3, _, rfl, rfl, b3, fun n hn => by simp [Deed.ns, Deed.prt, DPt.ns] at hn; rcases hn with rfl | rfl | rfl | rfl <;> assumption⟩
 ·have hf : gInA (.str nm) (.tup [.str "fasten", .str "loosen"]) = some (.v (.bl (decide (k = 1)))) := by
   rcases sz_cases hk with ⟨rfl, rfl⟩ | ⟨rfl, rfl⟩ | ⟨rfl, rfl⟩ | ⟨rfl, rfl⟩ | ⟨rfl, rfl⟩ | ⟨rfl, rfl⟩ | ⟨rfl, rfl⟩ | ⟨rfl, rfl⟩ <;> kernel_rfl
  refine ws_seq (ws_if (wb_tst (wr_op ⟨_, _, rfl, _, rfl, wr_tup (wl_cons ⟨_, _, rfl, _, rfl, wl_cons ⟨_, _, rfl, _, rfl, wl_nil ⟨_, rfl, _, hf, _, rfl, fun e1 => ?_, fun e1 => ws_skip ?_⟩⟩⟩)⟩)))
  ·have e1 := of_decide_eq_true e1
   refine ws_ret (wr_tup (wl_cons ⟨_, _, rfl, _, rfl, wl_cons (any_number_e b1 fun a d2 ha b2 => ⟨_, rfl, wl_nil ?_⟩)⟩))
   rcases sz_cases hk with ⟨rfl, h⟩ | ⟨rfl, h⟩ | ⟨rfl, h⟩ | ⟨rfl, h⟩ | ⟨rfl, h⟩ | ⟨rfl, h⟩ | ⟨rfl, h⟩ | ⟨rfl, h⟩ <;> first | (exfalso; omega) | skip
   ·exact ⟨.fa a, d2, _, rfl, rfl, b2, fun n hn => by simp [Deed.ns, Deed.prt, DPt.ns] at hn; rw [hn]; exact ha⟩
   ·exact ⟨.lo a, d2, _, rfl, rfl, b2, fun n hn => by simp [Deed.ns, Deed.prt, DPt.ns] at hn; rw [hn]; exact ha⟩
  ·have e1 := of_decide_eq_false e1
   refine ws_ret (wr_tup (wl_cons ⟨_, _, rfl, _, rfl, wl_cons (any_number_e b1 fun a d2 ha b2 => ⟨_, rfl, wl_cons (any_number_e b2 fun b d3 hb b3 => ⟨_, rfl, wl_nil ?_⟩)⟩)⟩))
   have two : ∀ n ∈ [a, b], n.natAbs < 10000000 := fun n hn => by simp at hn; rcases hn with rfl | rfl <;> assumption
   rcases sz_cases hk with ⟨rfl, h⟩ | ⟨rfl, h⟩ | ⟨rfl, h⟩ | ⟨rfl, h⟩ | ⟨rfl, h⟩ | ⟨rfl, h⟩ | ⟨rfl, h⟩ | ⟨rfl, h⟩ <;> first | (exfalso; omega) | (exact absurd em (by decide +kernel)) | skip
   ·exact ⟨.sh a b, d3, _, rfl, rfl, b3, two⟩
   ·exact ⟨.sm a b, d3, _, rfl, rfl, b3, two⟩
   ·exact ⟨.fl a b, d3, _, rfl, rfl, b3, two⟩
   ·exact ⟨.wi a b, d3, _, rfl, rfl, b3, two⟩
end
end Ck
namespace K67
open PySem PySem.Spec PyProof.Rows L2 Mp
noncomputable def b_law_box : ME -> MS := mRet (mLst (mCons (mCall1 gListB (mSlV 0 mNoPart (mPart (mC (.int 63))))) (mCons (mC (.int 0)) (mCons (mC (.int 0)) (mCons (mC (.int 7)) (mCons (mC (.int 0)) mNil))))))
noncomputable def m_law_box : MF := fnM 0 b_law_box
noncomputable def b_law_draw : ME -> MS := (mSeq (mIfS (mAndB (mTst (mOp gLt (mIxV 0 (mC (.int 2))) (mVar 1))) (mTst (mOp gLt (mIxV 0 (mC (.int 1))) (mCall1 gLen (mIxV 0 (mC (.int 0)))))))
 (mSeq (mSet 2 (mIx (mIxV 0 (mC (.int 0))) (mIxV 0 (mC (.int 1))))) (mSeq (mSub 0 (mC (.int 1)) (mOp gAdd (mIxV 0 (mC (.int 1))) (mC (.int 1)))) (mSeq (mSub 0 (mC (.int 2)) (mC (.int 0))) (mSeq (mSub 0 (mC (.int 3)) (mOp gMod (mOp gAdd (mOp gAdd (mOp gMulA (mIxV 0 (mC (.int 3))) (mC (.int 69621))) (mVar 2)) (mIxV 0 (mC (.int 1)))) (mC (.int 2147483629)))) (mIfS (mTst (mOp gGe (mVar 2) (mOp gPow (mC (.int 10)) (mC (.int 18)))))
 (mSub 0 (mC (.int 2)) (mVar 2))
 mSkip)))))
 mSkip) (mSeq (mIfS (mTst (mOp gGe (mIxV 0 (mC (.int 2))) (mVar 1)))
 (mSeq (mSet 3 (mOp gMod (mIxV 0 (mC (.int 2))) (mVar 1))) (mSeq (mSub 0 (mC (.int 2)) (mOp gFdv (mIxV 0 (mC (.int 2))) (mVar 1))) (mRet (mVar 3))))
 mSkip) (mSeq (mSub 0 (mC (.int 4)) (mOp gAdd (mIxV 0 (mC (.int 4))) (mC (.int 1)))) (mSeq (mSub 0 (mC (.int 3)) (mOp gMod (mOp gAdd (mOp gAdd (mOp gPow (mIxV 0 (mC (.int 3))) (mC (.int 3))) (mOp gMulA (mC (.int 40487)) (mIxV 0 (mC (.int 4))))) (mC (.int 17))) (mC (.int 2147483629)))) (mRet (mOp gMod (mOp gFdv (mIxV 0 (mC (.int 3))) (mC (.int 11))) (mVar 1)))))))
noncomputable def m_law_draw : MF := fnM 2 b_law_draw
noncomputable def b_law_any_number : ME -> MS := (mSeq (mSet 1 (mIx (mLst (mCons (mC (.int 10)) (mCons (mC (.int 1000)) (mCons (mOp gPow (mC (.int 10)) (mC (.int 7))) mNil)))) (mFnX m_law_draw 0 (mCons (mC (.int 3)) mNil)))) (mRet (mOp gMulA (mFnX m_law_draw 0 (mCons (mVar 1) mNil)) (mOp gSub (mC (.int 1)) (mOp gMulA (mC (.int 2)) (mCall (g1 gInt) (mCons (mOp gEq (mFnX m_law_draw 0 (mCons (mC (.int 4)) mNil)) (mC (.int 0))) mNil)))))))
noncomputable def m_law_any_number : MF := fnM 1 b_law_any_number
noncomputable def b_law_any_deed : ME -> MS := (mSeq (mSet 1 (mLst (mCons (mC (.str "move")) (mCons (mC (.str "split")) (mCons (mC (.str "sharpen")) (mCons (mC (.str "smoothen")) (mCons (mC (.str "fasten")) (mCons (mC (.str "loosen")) (mCons (mC (.str "flip")) (mCons (mC (.str "wish")) mNil)))))))))) (mSeq (mSet 2 (mIxV 1 (mFnX m_law_draw 0 (mCons (mC (.int 8)) mNil)))) (mSeq (mIfS (mTst (mOp gInA (mVar 2) (mTup (mCons (mC (.str "move")) (mCons (mC (.str "split")) mNil)))))
 (mRet (mTup (mCons (mVar 2) (mCons (mFnX m_law_any_number 0 mNil) (mCons (mCall (g1 gTuple) (mCons (mLc (mRng1 (mCons (mC (.int 3)) mNil)) (tgName 3) mYes (mFnX m_law_any_number 0 mNil) [3]) mNil)) mNil)))))
 mSkip) (mSeq (mIfS (mTst (mOp gInA (mVar 2) (mTup (mCons (mC (.str "fasten")) (mCons (mC (.str "loosen")) mNil)))))
 (mRet (mTup (mCons (mVar 2) (mCons (mFnX m_law_any_number 0 mNil) mNil))))
 mSkip) (mRet (mTup (mCons (mVar 2) (mCons (mFnX m_law_any_number 0 mNil) (mCons (mFnX m_law_any_number 0 mNil) mNil)))))))))
noncomputable def m_law_any_deed : MF := fnM 3 b_law_any_deed
noncomputable def b_row_text : ME -> MS := mRet (mJoin (mC (.str " ")) (mOp gAdd (mLst (mCons (mVar 0) mNil)) (mLc (mItL (mVar 1)) (tgName 2) mYes (mCall (g1 gStr) (mCons (mVar 2) mNil)) [2])))
noncomputable def m_row_text : MF := fnM 1 b_row_text
noncomputable def b_deed_text : ME -> MS := (mSeq (mSet 1 (mLst mNil)) (mSeq (mFor (mItT (mSlV 0 (mPart (mC (.int 1))) mNoPart)) (tgName 2)
 (mIfS (mTst (mCall1 (gIsi "tuple") (mVar 2)))
 (mDrop (mExtT 1 (mVar 2)))
 (mDrop (mApp 1 (mVar 2))))) (mRet (mFn m_row_text (mCons (mIxV 0 (mC (.int 0))) (mCons (mVar 1) mNil))))))
noncomputable def m_deed_text : MF := fnM 2 b_deed_text
noncomputable def b_law_whole : ME -> MS := mRet (mAndV (mCall1 (gIsi "int") (mVar 0)) (mNotV (mCall1 (gIsi "bool") (mVar 0))))
noncomputable def m_law_whole : MF := fnM 0 b_law_whole
noncomputable def m_law_same : Nat -> MF
  | 0 => fun _ => .stuck
  | n + 1 => fnM 1 ((mSeq (mIfS (mTst (mOp gIsN (mVar 1) (mC .non)))
 (mRet (mOp gIsN (mVar 0) (mC .non)))
 mSkip) (mSeq (mIfS (mTst (mCall1 (gIsi "bool") (mVar 1)))
 (mRet (mAndV (mCall1 (gIsi "bool") (mVar 0)) (mOp gEq (mVar 0) (mVar 1))))
 mSkip) (mSeq (mIfS (mTst (mCall1 (gIsi "int") (mVar 1)))
 (mRet (mAndV (mFn m_law_whole (mCons (mVar 0) mNil)) (mOp gEq (mVar 0) (mVar 1))))
 mSkip) (mSeq (mIfS (mTst (mCall1 (gIsi "str") (mVar 1)))
 (mRet (mAndV (mCall1 (gIsi "str") (mVar 0)) (mOp gEq (mVar 0) (mVar 1))))
 mSkip) (mSeq (mIfS (mOrB (mTst (mOp gNe (mCall1 (gIsi "list") (mVar 1)) (mCall1 (gIsi "list") (mVar 0)))) (mTst (mOp gNe (mCall1 (gIsi "tuple") (mVar 1)) (mCall1 (gIsi "tuple") (mVar 0)))))
 (mRet (mC (.bl false)))
 mSkip) (mRet (mAndV (mOp gEq (mCallV gLen 0) (mCallV gLen 1)) (mCall1 gAll (mLc (mRng1 (mCons (mCallV gLen 1) mNil)) (tgName 2) mYes (mFn (m_law_same n) (mCons (mIxV 0 (mVar 2)) (mCons (mIxV 1 (mVar 2)) mNil))) [2]))))))))))
noncomputable def b_law_deed_row : ME -> MS := (mSeq (mSet 1 (mLst (mCons (mIxV 0 (mC (.int 0))) mNil))) (mSeq (mFor (mItT (mSlV 0 (mPart (mC (.int 1))) mNoPart)) (tgName 2)
 (mIfS (mTst (mCall1 (gIsi "tuple") (mVar 2)))
 (mSet 1 (mOp gAdd (mVar 1) (mLc (mItT (mVar 2)) (tgName 3) mYes (mCall (g1 gStr) (mCons (mVar 3) mNil)) [3])))
 (mDrop (mApp 1 (mCall (g1 gStr) (mCons (mVar 2) mNil)))))) (mRet (mJoin (mC (.str " ")) (mVar 1)))))
noncomputable def m_law_deed_row : MF := fnM 3 b_law_deed_row
noncomputable def b_number_in : ME -> MS := (mSeq (mSet 1 (mVar 0)) (mSeq (mIfS (mTst (mOp gEq (mSlV 0 mNoPart (mPart (mC (.int 1)))) (mC (.str "-"))))
 (mSet 1 (mSlV 0 (mPart (mC (.int 1))) mNoPart))
 mSkip) (mSeq (mIfS (mOrB (mNotB (mTst (mChain gLe gLe (mC (.int 1)) (mCallV gLen 1) (mC c_MOST_FIGURES)))) (mNotB (mTst (mCall1 gAll (mLc (mItS (mVar 1)) (tgName 2) mYes (mOp gInS (mVar 2) (mC (.str "0123456789"))) [2])))))
 (mRet (mC .non))
 mSkip) (mSeq (mIfS (mAndB (mTst (mOp gEq (mIxV 1 (mC (.int 0))) (mC (.str "0")))) (mTst (mOp gNe (mVar 0) (mC (.str "0")))))
 (mRet (mC .non))
 mSkip) (mRet (mCall (g1 gIntS) (mCons (mVar 0) mNil)))))))
noncomputable def m_number_in : MF := fnM 2 b_number_in
noncomputable def b_numbers_in : ME -> MS := (mSeq (mSet 1 (mLc (mItL (mVar 0)) (tgName 2) mYes (mFn m_number_in (mCons (mVar 2) mNil)) [2])) (mSeq (mIfS (mTst (mInV gInA (mC .non) 1))
 (mRet (mC .non))
 mSkip) (mRet (mVar 1))))
noncomputable def m_numbers_in : MF := fnM 2 b_numbers_in
noncomputable def b_read_deed : ME -> MS := (mSeq (mAsgSL 1 2 (mSplit (mVar 0) (mC (.str " ")))) (mSeq (mSet 3 (mFn m_numbers_in (mCons (mVar 2) mNil))) (mSeq (mIfS (mOrB (mTst (mOp gNotInA (mVar 1) (mC c_DEED_NUMBERS))) (mOrB (mTst (mOp gIsN (mVar 3) (mC .non))) (mTst (mOp gNe (mCallV gLen 3) (mIx (mC c_DEED_NUMBERS) (mVar 1))))))
 (mRaiseI "BadText" ["at"] (mCons (mC (.int 0)) mNil))
 mSkip) (mSeq (mIfS (mTst (mOp gInA (mVar 1) (mTup (mCons (mC (.str "move")) (mCons (mC (.str "split")) mNil)))))
 (mRet (mTup (mCons (mVar 1) (mCons (mIxV 3 (mC (.int 0))) (mCons (mCall (g1 gTuple) (mCons (mSlV 3 (mPart (mC (.int 1))) mNoPart) mNil)) mNil)))))
 mSkip) (mRet (mOp gAdd (mTup (mCons (mVar 1) mNil)) (mCallV gTupleV 3)))))))
noncomputable def m_read_deed : MF := fnM 3 b_read_deed
noncomputable def b_law_spoilt_row : ME -> MS := (mSeq (mSet 2 (mC (.str " !#&()*+,-./0123456789:;<=>?@ABCDEFGHIJKLMNOPQRSTUVWXYZ[]^_abcdefghijklmnopqrstuvwxyz{|}~"))) (mSeq (mSet 3 (mIxV 2 (mFnX m_law_draw 0 (mCons (mCallV gLen 2) mNil)))) (mSeq (mIfS (mTst (mOp gEq (mFnX m_law_draw 0 (mCons (mC (.int 2)) mNil)) (mC (.int 0))))
 (mSet 3 (mIx (mLst (mCons (mC (.str " ")) (mCons (mC (.str "0")) (mCons (mC (.str "1")) (mCons (mC (.str "-")) (mCons (mC (.str "9")) (mCons (mC (.str "s")) mNil))))))) (mFnX m_law_draw 0 (mCons (mC (.int 6)) mNil))))
 mSkip) (mSeq (mSet 4 (mFnX m_law_draw 0 (mCons (mOp gAdd (mCallV gLen 1) (mC (.int 1))) mNil))) (mSeq (mSet 5 (mSplit (mVar 1) (mC (.str " ")))) (mSeq (mSet 6 (mFnX m_law_draw 0 (mCons (mCallV gLen 5) mNil))) (mSeq (mSet 7 (mFnX m_law_draw 0 (mCons (mC (.int 7)) mNil))) (mSeq (mIfS (mTst (mOp gEq (mVar 7) (mC (.int 0))))
 (mRet (mOp gAdd (mOp gAdd (mSlV 1 mNoPart (mPart (mVar 4))) (mVar 3)) (mSlV 1 (mPart (mVar 4)) mNoPart)))
 mSkip) (mSeq (mIfS (mTst (mOp gEq (mVar 7) (mC (.int 1))))
 (mRet (mOp gAdd (mSlV 1 mNoPart (mPart (mVar 4))) (mSlV 1 (mPart (mOp gAdd (mVar 4) (mC (.int 1)))) mNoPart)))
 mSkip) (mSeq (mIfS (mTst (mOp gEq (mVar 7) (mC (.int 2))))
 (mRet (mOp gAdd (mOp gAdd (mSlV 1 mNoPart (mPart (mVar 4))) (mVar 3)) (mSlV 1 (mPart (mOp gAdd (mVar 4) (mC (.int 1)))) mNoPart)))
 mSkip) (mSeq (mIfS (mTst (mOp gEq (mVar 7) (mC (.int 3))))
 (mSet 5 (mOp gAdd (mSlV 5 mNoPart (mPart (mVar 6))) (mSlV 5 (mPart (mOp gAdd (mVar 6) (mC (.int 1)))) mNoPart)))
 mSkip) (mSeq (mIfS (mTst (mOp gEq (mVar 7) (mC (.int 4))))
 (mSet 5 (mOp gAdd (mOp gAdd (mSlV 5 mNoPart (mPart (mVar 6))) (mLst (mCons (mIxV 5 (mVar 6)) mNil))) (mSlV 5 (mPart (mVar 6)) mNoPart)))
 mSkip) (mSeq (mIfS (mTst (mOp gEq (mVar 7) (mC (.int 5))))
 (mSeq (mSet 8 (mLst (mCons (mC (.str "0")) (mCons (mC (.str "00")) (mCons (mC (.str "-0")) (mCons (mC (.str "07")) (mCons (mC (.str "-1")) (mCons (mC (.str "")) (mCons (mC (.str "corner")) (mCons (mC (.str "face")) (mCons (mC (.str "1001")) (mCons (mC (.str "10000000")) (mCons (mC (.str "move")) (mCons (mC (.str "fast")) (mCons (mC (.str "deeds")) mNil))))))))))))))) (mSub 5 (mVar 6) (mIxV 8 (mFnX m_law_draw 0 (mCons (mC (.int 13)) mNil)))))
 mSkip) (mSeq (mIfS (mTst (mOp gEq (mVar 7) (mC (.int 6))))
 (mSub2 5 (mVar 6) (mC (.int 0)) (mCons (mIxV 5 (mC (.int 0))) (mCons (mIxV 5 (mVar 6)) mNil)))
 mSkip) (mRet (mJoin (mC (.str " ")) (mVar 5)))))))))))))))))
noncomputable def m_law_spoilt_row : MF := fnM 7 b_law_spoilt_row
noncomputable def b_law_number : ME -> MS := (mSeq (mSet 1 (mVar 0)) (mSeq (mIfS (mTst (mOp gEq (mSlV 0 mNoPart (mPart (mC (.int 1)))) (mC (.str "-"))))
 (mSet 1 (mSlV 0 (mPart (mC (.int 1))) mNoPart))
 mSkip) (mSeq (mIfS (mOrB (mTst (mOp gLt (mCallV gLen 1) (mC (.int 1)))) (mOrB (mTst (mOp gGt (mCallV gLen 1) (mC (.int 7)))) (mNotB (mTst (mCall1 gAll (mLc (mItS (mVar 1)) (tgName 2) mYes (mOp gInS (mVar 2) (mC (.str "0123456789"))) [2]))))))
 (mRet (mC .non))
 mSkip) (mSeq (mIfS (mAndB (mTst (mOp gEq (mIxV 1 (mC (.int 0))) (mC (.str "0")))) (mTst (mOp gNe (mVar 0) (mC (.str "0")))))
 (mRet (mC .non))
 mSkip) (mRet (mCall (g1 gIntS) (mCons (mVar 0) mNil)))))))
noncomputable def m_law_number : MF := fnM 2 b_law_number
noncomputable def b_law_read_deed : ME -> MS := (mSeq (mSet 1 (mSplit (mVar 0) (mC (.str " ")))) (mSeq (mSet 2 (mDisp [.inr "move", .inr "sharpen", .inr "smoothen", .inr "fasten", .inr "loosen", .inr "split", .inr "flip", .inr "wish"] (mCons (mC (.int 4)) (mCons (mC (.int 2)) (mCons (mC (.int 2)) (mCons (mC (.int 1)) (mCons (mC (.int 1)) (mCons (mC (.int 4)) (mCons (mC (.int 2)) (mCons (mC (.int 2)) mNil)))))))))) (mSeq (mSet 3 (mLc (mItL (mSlV 1 (mPart (mC (.int 1))) mNoPart)) (tgName 4) mYes (mFn m_law_number (mCons (mVar 4) mNil)) [4])) (mSeq (mIfS (mOrB (mTst (mInV gNotInA (mIxV 1 (mC (.int 0))) 2)) (mOrB (mTst (mInV gInA (mC .non) 3)) (mTst (mOp gNe (mCallV gLen 3) (mIxV 2 (mIxV 1 (mC (.int 0))))))))
 (mRet (mC .non))
 mSkip) (mSeq (mIfS (mTst (mOp gInA (mIxV 1 (mC (.int 0))) (mTup (mCons (mC (.str "move")) (mCons (mC (.str "split")) mNil)))))
 (mRet (mTup (mCons (mIxV 1 (mC (.int 0))) (mCons (mIxV 3 (mC (.int 0))) (mCons (mCall (g1 gTuple) (mCons (mSlV 3 (mPart (mC (.int 1))) mNoPart) mNil)) mNil)))))
 mSkip) (mRet (mOp gAdd (mTup (mCons (mIxV 1 (mC (.int 0))) mNil)) (mCallV gTupleV 3))))))))
noncomputable def m_law_read_deed : MF := fnM 4 b_law_read_deed
noncomputable def b_law_told : ME -> MS := (mSeq (mSet 1 (mC .non)) (mSeq (mTryAs etab "BadText" 2
 (mSet 1 (mFn m_read_deed (mCons (mVar 0) mNil)))
 (fun c => mSet 1 (mXf 2 "at"))) (mRet (mVar 1))))
noncomputable def m_law_told : MF := fnM 2 b_law_told
noncomputable def b_law : ME -> MS := (mSeq (mSet 1 (mFn m_law_box (mCons (mVar 0) mNil))) (mSeq (mFor (mRng1 (mCons (mC (.int 9)) mNil)) (tgName 2)
 (mSeq (mSet 3 (mFnX m_law_any_deed 1 mNil)) (mSeq (mSet 4 (mFn m_deed_text (mCons (mVar 3) mNil))) (mSeq (mIfS (mOrB (mNotB (mTst (mFn (m_law_same 6) (mCons (mVar 4) (mCons (mFn m_law_deed_row (mCons (mVar 3) mNil)) mNil))))) (mNotB (mTst (mFn (m_law_same 6) (mCons (mFn m_read_deed (mCons (mVar 4) mNil)) (mCons (mVar 3) mNil))))))
 (mRet (mC (.bl false)))
 mSkip) (mSeq (mFor (mRng1 (mCons (mOp gAdd (mC (.int 1)) (mFnX m_law_draw 1 (mCons (mC (.int 2)) mNil))) mNil)) (tgName 5)
 (mSet 4 (mFnX m_law_spoilt_row 1 (mCons (mVar 4) mNil)))) (mSeq (mSet 6 (mFn m_law_read_deed (mCons (mVar 4) mNil))) (mSeq (mIfS (mTst (mOp gIsN (mVar 6) (mC .non)))
 (mSet 6 (mC (.int 0)))
 mSkip) (mIfS (mNotB (mTst (mFn (m_law_same 6) (mCons (mFn m_law_told (mCons (mVar 4) mNil)) (mCons (mVar 6) mNil)))))
 (mRet (mC (.bl false)))
 mSkip)))))))) (mSeq (mSet 7 (mLst (mCons (mC (.str "")) (mCons (mC (.str " ")) (mCons (mC (.str "move")) (mCons (mC (.str "move 1 2 3")) (mCons (mC (.str "flip 1 2 ")) (mCons (mC (.str "wish 1 2\n")) (mCons (mC (.str "fasten 01")) (mCons (mC (.str "loosen --1")) (mCons (mC (.str "Move 1 2 3 4")) mNil))))))))))) (mRet (mCall1 gAll (mLc (mItL (mVar 7)) (tgName 4) mYes (mFn (m_law_same 6) (mCons (mFn m_law_told (mCons (mVar 4) mNil)) (mCons (mC (.int 0)) mNil))) [4]))))))
noncomputable def m_law : MF := fnM 7 b_law
structure Fx (P : Program) (w : World) (K : PySem.W.Frag) (mg : Str -> Option Value) : Prop where
 n_all : mg "all" = none
 n_bool : mg "bool" = none
 n_int : mg "int" = none
 n_isinstance : mg "isinstance" = none
 n_len : mg "len" = none
 n_list : mg "list" = none
 n_range : mg "range" = none
 n_str : mg "str" = none
 n_tuple : mg "tuple" = none
 exf : ExF ⟨P, w, K, mg, none⟩ etab
 k_DEED_NUMBERS : KC ⟨P, w, K, mg, none⟩ "DEED_NUMBERS" c_DEED_NUMBERS
 k_MOST_FIGURES : KC ⟨P, w, K, mg, none⟩ "MOST_FIGURES" c_MOST_FIGURES
 nf_at : NoF ⟨P, w, K, mg, none⟩ etab "at"
 d_law_box : DefIs K mg "_law_box" "_law_box" (defArgs s_law_box) (defBody s_law_box) (defScope s_law_box)
 d_law_draw : DefIs K mg "_law_draw" "_law_draw" (defArgs s_law_draw) (defBody s_law_draw) (defScope s_law_draw)
 d_law_any_number : DefIs K mg "_law_any_number" "_law_any_number" (defArgs s_law_any_number) (defBody s_law_any_number) (defScope s_law_any_number)
 d_law_any_deed : DefIs K mg "_law_any_deed" "_law_any_deed" (defArgs s_law_any_deed) (defBody s_law_any_deed) (defScope s_law_any_deed)
 d_row_text : DefIs K mg "row_text" "row_text" (defArgs s_row_text) (defBody s_row_text) (defScope s_row_text)
 d_deed_text : DefIs K mg "deed_text" "deed_text" (defArgs s_deed_text) (defBody s_deed_text) (defScope s_deed_text)
 d_law_whole : DefIs K mg "_law_whole" "_law_whole" (defArgs s_law_whole) (defBody s_law_whole) (defScope s_law_whole)
 d_law_same : DefIs K mg "_law_same" "_law_same" (defArgs s_law_same) (defBody s_law_same) (defScope s_law_same)
 d_law_deed_row : DefIs K mg "_law_deed_row" "_law_deed_row" (defArgs s_law_deed_row) (defBody s_law_deed_row) (defScope s_law_deed_row)
 d_number_in : DefIs K mg "number_in" "number_in" (defArgs s_number_in) (defBody s_number_in) (defScope s_number_in)
 d_numbers_in : DefIs K mg "numbers_in" "numbers_in" (defArgs s_numbers_in) (defBody s_numbers_in) (defScope s_numbers_in)
 d_BadText___init__ : ExIIs K mg "BadText" "SoftError" ["at"] "BadText.__init__" (defArgs s_BadText___init__) (defBody s_BadText___init__) (defScope s_BadText___init__)
 d_read_deed : DefIs K mg "read_deed" "read_deed" (defArgs s_read_deed) (defBody s_read_deed) (defScope s_read_deed)
 d_law_spoilt_row : DefIs K mg "_law_spoilt_row" "_law_spoilt_row" (defArgs s_law_spoilt_row) (defBody s_law_spoilt_row) (defScope s_law_spoilt_row)
 d_law_number : DefIs K mg "_law_number" "_law_number" (defArgs s_law_number) (defBody s_law_number) (defScope s_law_number)
 d_law_read_deed : DefIs K mg "_law_read_deed" "_law_read_deed" (defArgs s_law_read_deed) (defBody s_law_read_deed) (defScope s_law_read_deed)
 d_law_told : DefIs K mg "_law_told" "_law_told" (defArgs s_law_told) (defBody s_law_told) (defScope s_law_told)
 d_law : DefIs K mg "law" "law" (defArgs s_law) (defBody s_law) (defScope s_law)
theorem sc_law_box : FnScope ["_law_script"] ["_law_script"] (defScope s_law_box) := ⟨rfl, rfl, rfl, by decide +kernel, rfl, by decide +kernel, by decide +kernel⟩
theorem ok_law_box {P : Program} {w : World} {K : PySem.W.Frag} {mg : Str -> Option Value} {base : Heap} (F : Fx P w K mg) : DefOk P w K mg base "_law_box" 1 1 m_law_box := def_ok F.d_law_box sc_law_box (fun _ _ _ _ _ _ us hl => match us, hl with | [_], _ => rfl) fun a cdv A outer s H E hr =>
 (ss_one (st_ret (me_lst (ma_cons (me_callT1 (cr_listB rfl) sem_listB rfl F.n_list bt_list (me_slV 0 mo_none (mo_some me_int))) (ma_cons me_int (ma_cons me_int (ma_cons me_int (ma_cons me_int ma_nil))))) (lenIs_cons (lenIs_cons (lenIs_cons (lenIs_cons (lenIs_cons lenIs_nil))))))))
theorem sc_law_draw : FnScope ["_law_box_here", "_law_many", "_law_cell", "_law_got"] ["_law_box_here", "_law_many"] (defScope s_law_draw) := ⟨rfl, rfl, rfl, by decide +kernel, rfl, by decide +kernel, by decide +kernel⟩
theorem ok_law_draw {P : Program} {w : World} {K : PySem.W.Frag} {mg : Str -> Option Value} {base : Heap} (F : Fx P w K mg) : DefOk P w K mg base "_law_draw" 1 2 m_law_draw := def_ok F.d_law_draw sc_law_draw (fun _ _ _ _ _ _ us hl => match us, hl with | [_, _], _ => rfl) fun a cdv A outer s H E hr =>
 (ss_cons (st_if (mt_w (mw_and (mt_cmp op_lt sem_cmpI (me_ixV (hu_of hr) 0 me_int) (me_var 1)) (mw_and1 (mt_cmp op_lt sem_cmpI (me_ixV (hu_of hr) 0 me_int) (me_callB1 cr_lenA sem_len rfl F.n_len bt_len (me_ixV (hu_of hr) 0 me_int))))))
 (ss_cons (st_set 2 sc_law_draw.nd rfl (by first | exact .inl rfl | exact .inr rfl) (me_ix (hu_of hr) (me_ixV (hu_of hr) 0 me_int) (me_ixV (hu_of hr) 0 me_int)))
 (ss_cons (st_sub 0 me_int (me_add (me_ixV (hu_of hr) 0 me_int) me_int))
 (ss_cons (st_sub 0 me_int me_int)
 (ss_cons (st_sub 0 me_int (me_mod (me_add (me_add (me_mulA (me_ixV (hu_of hr) 0 me_int) me_int) (me_var 2)) (me_ixV (hu_of hr) 0 me_int)) me_int))
 (ss_one (st_if (mt_cmp op_ge sem_cmpI (me_var 2) (me_pow me_int me_int))
 (ss_one (st_sub 0 me_int (me_var 2)))
 ss_nil))))))
 ss_nil)
 (ss_cons (st_if (mt_cmp op_ge sem_cmpI (me_ixV (hu_of hr) 0 me_int) (me_var 1))
 (ss_cons (st_set 3 sc_law_draw.nd rfl (by first | exact .inl rfl | exact .inr rfl) (me_mod (me_ixV (hu_of hr) 0 me_int) (me_var 1)))
 (ss_cons (st_sub 0 me_int (me_fdv (me_ixV (hu_of hr) 0 me_int) (me_var 1)))
 (ss_one (st_ret (me_var 3)))))
 ss_nil)
 (ss_cons (st_sub 0 me_int (me_add (me_ixV (hu_of hr) 0 me_int) me_int))
 (ss_cons (st_sub 0 me_int (me_mod (me_add (me_add (me_pow (me_ixV (hu_of hr) 0 me_int) me_int) (me_mulA me_int (me_ixV (hu_of hr) 0 me_int))) me_int) me_int))
 (ss_one (st_ret (me_mod (me_fdv (me_ixV (hu_of hr) 0 me_int) me_int) (me_var 1))))))))
theorem sc_law_any_number : FnScope ["_law_box_here", "_law_most"] ["_law_box_here"] (defScope s_law_any_number) := ⟨rfl, rfl, rfl, by decide +kernel, rfl, by decide +kernel, by decide +kernel⟩
theorem ok_law_any_number {P : Program} {w : World} {K : PySem.W.Frag} {mg : Str -> Option Value} {base : Heap} (F : Fx P w K mg) : DefOk P w K mg base "_law_any_number" 2 1 m_law_any_number := def_ok F.d_law_any_number sc_law_any_number (fun _ _ _ _ _ _ us hl => match us, hl with | [_], _ => rfl) fun a cdv A outer s H E hr =>
 (ss_cons (st_set 1 sc_law_any_number.nd rfl (by first | exact .inl rfl | exact .inr rfl) (me_ix (hu_of hr) (me_lst (ma_cons me_int (ma_cons me_int (ma_cons (me_pow me_int me_int) ma_nil))) (lenIs_cons (lenIs_cons (lenIs_cons lenIs_nil)))) (me_fnX 0 ((ok_law_draw F).mono (by first | decide | (simp only [Nat.add_eq]; omega))) hr (takes_of rfl rfl rfl rfl) rfl (ma_cons me_int ma_nil) (lenIs_cons lenIs_nil))))
 (ss_one (st_ret (me_mulA (me_fnX 0 ((ok_law_draw F).mono (by first | decide | (simp only [Nat.add_eq]; omega))) hr (takes_of rfl rfl rfl rfl) rfl (ma_cons (me_var 1) ma_nil) (lenIs_cons lenIs_nil)) (me_sub me_int (me_mulA me_int (me_callT call_int1 sem_int rfl F.n_int bt_int (ma_cons (me_cmp (op_eqA hr.units) sem_eq (me_fnX 0 ((ok_law_draw F).mono (by first | decide | (simp only [Nat.add_eq]; omega))) hr (takes_of rfl rfl rfl rfl) rfl (ma_cons me_int ma_nil) (lenIs_cons lenIs_nil)) me_int) ma_nil))))))))
theorem sc_law_any_deed : FnScope ["_law_box_here", "_law_names", "_law_name", "_law_k"] ["_law_box_here"] (defScope s_law_any_deed) := ⟨rfl, rfl, rfl, by decide +kernel, rfl, by decide +kernel, by decide +kernel⟩
theorem ok_law_any_deed {P : Program} {w : World} {K : PySem.W.Frag} {mg : Str -> Option Value} {base : Heap} (F : Fx P w K mg) : DefOk P w K mg base "_law_any_deed" 3 1 m_law_any_deed := def_ok F.d_law_any_deed sc_law_any_deed (fun _ _ _ _ _ _ us hl => match us, hl with | [_], _ => rfl) fun a cdv A outer s H E hr =>
 (ss_cons (st_set 1 sc_law_any_deed.nd rfl (by first | exact .inl rfl | exact .inr rfl) (me_lst (ma_cons me_str (ma_cons me_str (ma_cons me_str (ma_cons me_str (ma_cons me_str (ma_cons me_str (ma_cons me_str (ma_cons me_str ma_nil)))))))) (lenIs_cons (lenIs_cons (lenIs_cons (lenIs_cons (lenIs_cons (lenIs_cons (lenIs_cons (lenIs_cons lenIs_nil))))))))))
 (ss_cons (st_set 2 sc_law_any_deed.nd rfl (by first | exact .inl rfl | exact .inr rfl) (me_ixV (hu_of hr) 1 (me_fnX 0 ((ok_law_draw F).mono (by first | decide | (simp only [Nat.add_eq]; omega))) hr (takes_of rfl rfl rfl rfl) rfl (ma_cons me_int ma_nil) (lenIs_cons lenIs_nil))))
 (ss_cons (st_if (mt_cmp (op_inAny (hu65_of hr)) sem_inAny (me_var 2) (me_tup (ma_cons me_str (ma_cons me_str ma_nil)) (lenIs_cons (lenIs_cons lenIs_nil))))
 (ss_one (st_ret (me_tup (ma_cons (me_var 2) (ma_cons (me_fnX 0 ((ok_law_any_number F).mono (by first | decide | (simp only [Nat.add_eq]; omega))) hr (takes_of rfl rfl rfl rfl) rfl ma_nil lenIs_nil) (ma_cons (me_callT call_tuple_of sem_tuple rfl F.n_tuple bt_tuple (ma_cons (me_lc (own := [("_law_k", 3)]) rfl sc_law_any_deed.nd (mi_rng1 rfl F.n_range (ma_cons me_int ma_nil)) (blkOk_by (by first | rfl | decide +kernel)) (fun _ _ _ _ _ => mg_name 3 sc_law_any_deed.nd rfl (by first | exact .inl rfl | exact .inr rfl)) (fun _ _ _ _ _ => mts_nil) (fun _ _ _ _ _ => me_fnX 0 ((ok_law_any_number F).mono (by first | decide | (simp only [Nat.add_eq]; omega))) hr takes0 rfl ma_nil lenIs_nil)) ma_nil)) ma_nil))) (lenIs_cons (lenIs_cons (lenIs_cons lenIs_nil))))))
 ss_nil)
 (ss_cons (st_if (mt_cmp (op_inAny (hu65_of hr)) sem_inAny (me_var 2) (me_tup (ma_cons me_str (ma_cons me_str ma_nil)) (lenIs_cons (lenIs_cons lenIs_nil))))
 (ss_one (st_ret (me_tup (ma_cons (me_var 2) (ma_cons (me_fnX 0 ((ok_law_any_number F).mono (by first | decide | (simp only [Nat.add_eq]; omega))) hr (takes_of rfl rfl rfl rfl) rfl ma_nil lenIs_nil) ma_nil)) (lenIs_cons (lenIs_cons lenIs_nil)))))
 ss_nil)
 (ss_one (st_ret (me_tup (ma_cons (me_var 2) (ma_cons (me_fnX 0 ((ok_law_any_number F).mono (by first | decide | (simp only [Nat.add_eq]; omega))) hr (takes_of rfl rfl rfl rfl) rfl ma_nil lenIs_nil) (ma_cons (me_fnX 0 ((ok_law_any_number F).mono (by first | decide | (simp only [Nat.add_eq]; omega))) hr (takes_of rfl rfl rfl rfl) rfl ma_nil lenIs_nil) ma_nil))) (lenIs_cons (lenIs_cons (lenIs_cons lenIs_nil))))))))))
theorem sc_row_text : FnScope ["word", "numbers", "number"] ["word", "numbers"] (defScope s_row_text) := ⟨rfl, rfl, rfl, by decide +kernel, rfl, by decide +kernel, by decide +kernel⟩
theorem ok_row_text {P : Program} {w : World} {K : PySem.W.Frag} {mg : Str -> Option Value} {base : Heap} (F : Fx P w K mg) : DefOk P w K mg base "row_text" 1 2 m_row_text := def_ok F.d_row_text sc_row_text (fun _ _ _ _ _ _ us hl => match us, hl with | [_, _], _ => rfl) fun a cdv A outer s H E hr =>
 (ss_one (st_ret (me_join me_str (me_add (me_lst (ma_cons (me_var 0) ma_nil) (lenIs_cons lenIs_nil)) (me_lc (own := [("number", 2)]) rfl sc_row_text.nd (mi_list (me_var 1)) (blkOk_by (by first | rfl | decide +kernel)) (fun _ _ _ _ _ => mg_name 2 sc_row_text.nd rfl (by first | exact .inl rfl | exact .inr rfl)) (fun _ _ _ _ _ => mts_nil) (fun _ _ _ _ _ => me_callT cr_str sem_str rfl F.n_str bt_str (ma_cons (me_var 2) ma_nil)))))))
theorem sc_deed_text : FnScope ["deed", "numbers", "part"] ["deed"] (defScope s_deed_text) := ⟨rfl, rfl, rfl, by decide +kernel, rfl, by decide +kernel, by decide +kernel⟩
theorem ok_deed_text {P : Program} {w : World} {K : PySem.W.Frag} {mg : Str -> Option Value} {base : Heap} (F : Fx P w K mg) : DefOk P w K mg base "deed_text" 2 1 m_deed_text := def_ok F.d_deed_text sc_deed_text (fun _ _ _ _ _ _ us hl => match us, hl with | [_], _ => rfl) fun a cdv A outer s H E hr =>
 (ss_cons (st_set 1 sc_deed_text.nd rfl (by first | exact .inl rfl | exact .inr rfl) (me_lst ma_nil lenIs_nil))
 (ss_cons (st_for (passes_of rfl) rfl (mi_tup (me_slV 0 (mo_some me_int) mo_none)) (mg_name 2 sc_deed_text.nd rfl (by first | exact .inl rfl | exact .inr rfl))
 (ss_one (st_if (mt_val (me_isi rfl F.n_isinstance rfl F.n_tuple (me_var 2) bt_tuple))
 (ss_one (st_expr (me_extT 1 (me_var 2))))
 (ss_one (st_expr (me_app 1 (me_var 2)))))))
 (ss_one (st_ret (me_fn ((ok_row_text F).mono (by first | decide | (simp only [Nat.add_eq]; omega))) hr (takes_of rfl rfl rfl rfl) rfl (ma_cons (me_ixV (hu_of hr) 0 me_int) (ma_cons (me_var 1) ma_nil)) (lenIs_cons (lenIs_cons lenIs_nil)))))))
theorem sc_law_whole : FnScope ["_law_found"] ["_law_found"] (defScope s_law_whole) := ⟨rfl, rfl, rfl, by decide +kernel, rfl, by decide +kernel, by decide +kernel⟩
theorem ok_law_whole {P : Program} {w : World} {K : PySem.W.Frag} {mg : Str -> Option Value} {base : Heap} (F : Fx P w K mg) : DefOk P w K mg base "_law_whole" 1 1 m_law_whole := def_ok F.d_law_whole sc_law_whole (fun _ _ _ _ _ _ us hl => match us, hl with | [_], _ => rfl) fun a cdv A outer s H E hr =>
 (ss_one (st_ret (me_and (me_isi rfl F.n_isinstance rfl F.n_int (me_var 0) bt_int) (me_one (me_not (me_isi rfl F.n_isinstance rfl F.n_bool (me_var 0) bt_bool))))))
theorem sc_law_same : FnScope ["_law_found", "_law_due", "_law_k"] ["_law_found", "_law_due"] (defScope s_law_same) := ⟨rfl, rfl, rfl, by decide +kernel, rfl, by decide +kernel, by decide +kernel⟩
theorem ok_law_same {P : Program} {w : World} {K : PySem.W.Frag} {mg : Str -> Option Value} {base : Heap} (F : Fx P w K mg) : ∀ n : Nat, DefOk P w K mg base "_law_same" (2 + n) 2 (m_law_same n)
  | 0 => def_none F.d_law_same (ps := ["_law_found", "_law_due"]) (fun _ _ _ _ _ _ us hl => match us, hl with | [_, _], _ => rfl)
  | n + 1 => by
    have ih := ok_law_same F (base := base) n
    exact def_ok F.d_law_same sc_law_same (fun _ _ _ _ _ _ us hl => match us, hl with | [_, _], _ => rfl) fun a cdv A outer s H E hr =>
 (ss_cons (st_if (mt_cmp op_isN sem_isN (me_var 1) me_non)
 (ss_one (st_ret (me_cmp op_isN sem_isN (me_var 0) me_non)))
 ss_nil)
 (ss_cons (st_if (mt_val (me_isi rfl F.n_isinstance rfl F.n_bool (me_var 1) bt_bool))
 (ss_one (st_ret (me_and (me_isi rfl F.n_isinstance rfl F.n_bool (me_var 0) bt_bool) (me_one (me_cmp (op_eqA hr.units) sem_eq (me_var 0) (me_var 1))))))
 ss_nil)
 (ss_cons (st_if (mt_val (me_isi rfl F.n_isinstance rfl F.n_int (me_var 1) bt_int))
 (ss_one (st_ret (me_and (me_fn ((ok_law_whole F).mono (by first | decide | (simp only [Nat.add_eq]; omega))) hr (takes_of rfl rfl rfl rfl) rfl (ma_cons (me_var 0) ma_nil) (lenIs_cons lenIs_nil)) (me_one (me_cmp (op_eqA hr.units) sem_eq (me_var 0) (me_var 1))))))
 ss_nil)
 (ss_cons (st_if (mt_val (me_isi rfl F.n_isinstance rfl F.n_str (me_var 1) bt_str))
 (ss_one (st_ret (me_and (me_isi rfl F.n_isinstance rfl F.n_str (me_var 0) bt_str) (me_one (me_cmp (op_eqA hr.units) sem_eq (me_var 0) (me_var 1))))))
 ss_nil)
 (ss_cons (st_if (mt_w (mw_or (mt_cmp (op_neA hr.units) sem_ne (me_isi rfl F.n_isinstance rfl F.n_list (me_var 1) bt_list) (me_isi rfl F.n_isinstance rfl F.n_list (me_var 0) bt_list)) (mw_or1 (mt_cmp (op_neA hr.units) sem_ne (me_isi rfl F.n_isinstance rfl F.n_tuple (me_var 1) bt_tuple) (me_isi rfl F.n_isinstance rfl F.n_tuple (me_var 0) bt_tuple)))))
 (ss_one (st_ret me_bl))
 ss_nil)
 (ss_one (st_ret (me_and (me_cmp (op_eqA hr.units) sem_eq (me_callBV 0 cr_lenA sem_len rfl F.n_len bt_len) (me_callBV 1 cr_lenA sem_len rfl F.n_len bt_len)) (me_one (me_callB1 (cr_all rfl) sem_all rfl F.n_all bt_all (me_lc (own := [("_law_k", 2)]) rfl sc_law_same.nd (mi_rng1 rfl F.n_range (ma_cons (me_callBV 1 cr_lenA sem_len rfl F.n_len bt_len) ma_nil)) (blkOk_by (by first | rfl | decide +kernel)) (fun _ _ _ _ _ => mg_name 2 sc_law_same.nd rfl (by first | exact .inl rfl | exact .inr rfl)) (fun _ _ _ _ _ => mts_nil) (fun _ _ _ _ _ => me_fn ih hr takes0 rfl (ma_cons (me_ixV (hu_of hr) 0 (me_var 2)) (ma_cons (me_ixV (hu_of hr) 1 (me_var 2)) ma_nil)) (lenIs_cons (lenIs_cons lenIs_nil))))))))))))))
theorem sc_law_deed_row : FnScope ["_law_deed", "_law_words", "_law_part", "_law_number_here"] ["_law_deed"] (defScope s_law_deed_row) := ⟨rfl, rfl, rfl, by decide +kernel, rfl, by decide +kernel, by decide +kernel⟩
theorem ok_law_deed_row {P : Program} {w : World} {K : PySem.W.Frag} {mg : Str -> Option Value} {base : Heap} (F : Fx P w K mg) : DefOk P w K mg base "_law_deed_row" 1 1 m_law_deed_row := def_ok F.d_law_deed_row sc_law_deed_row (fun _ _ _ _ _ _ us hl => match us, hl with | [_], _ => rfl) fun a cdv A outer s H E hr =>
 (ss_cons (st_set 1 sc_law_deed_row.nd rfl (by first | exact .inl rfl | exact .inr rfl) (me_lst (ma_cons (me_ixV (hu_of hr) 0 me_int) ma_nil) (lenIs_cons lenIs_nil)))
 (ss_cons (st_for (passes_of rfl) rfl (mi_tup (me_slV 0 (mo_some me_int) mo_none)) (mg_name 2 sc_law_deed_row.nd rfl (by first | exact .inl rfl | exact .inr rfl))
 (ss_one (st_if (mt_val (me_isi rfl F.n_isinstance rfl F.n_tuple (me_var 2) bt_tuple))
 (ss_one (st_set 1 sc_law_deed_row.nd rfl (by first | exact .inl rfl | exact .inr rfl) (me_add (me_var 1) (me_lc (own := [("_law_number_here", 3)]) rfl sc_law_deed_row.nd (mi_tup (me_var 2)) (blkOk_by (by first | rfl | decide +kernel)) (fun _ _ _ _ _ => mg_name 3 sc_law_deed_row.nd rfl (by first | exact .inl rfl | exact .inr rfl)) (fun _ _ _ _ _ => mts_nil) (fun _ _ _ _ _ => me_callT cr_str sem_str rfl F.n_str bt_str (ma_cons (me_var 3) ma_nil))))))
 (ss_one (st_expr (me_app 1 (me_callT cr_str sem_str rfl F.n_str bt_str (ma_cons (me_var 2) ma_nil))))))))
 (ss_one (st_ret (me_join me_str (me_var 1))))))
theorem sc_number_in : FnScope ["word", "digits", "sign"] ["word"] (defScope s_number_in) := ⟨rfl, rfl, rfl, by decide +kernel, rfl, by decide +kernel, by decide +kernel⟩
theorem ok_number_in {P : Program} {w : World} {K : PySem.W.Frag} {mg : Str -> Option Value} {base : Heap} (F : Fx P w K mg) : DefOk P w K mg base "number_in" 1 1 m_number_in := def_ok F.d_number_in sc_number_in (fun _ _ _ _ _ _ us hl => match us, hl with | [_], _ => rfl) fun a cdv A outer s H E hr =>
 (ss_cons (st_set 1 sc_number_in.nd rfl (by first | exact .inl rfl | exact .inr rfl) (me_var 0))
 (ss_cons (st_if (mt_cmp (op_eqA hr.units) sem_eq (me_slV 0 mo_none (mo_some me_int)) me_str)
 (ss_one (st_set 1 sc_number_in.nd rfl (by first | exact .inl rfl | exact .inr rfl) (me_slV 0 (mo_some me_int) mo_none)))
 ss_nil)
 (ss_cons (st_if (mt_w (mw_or (mt_not (mt_chain op_le sem_cmpI op_le sem_cmpI me_int (me_callBV 1 cr_lenA sem_len rfl F.n_len bt_len) (me_glob F.k_MOST_FIGURES rfl))) (mw_or1 (mt_not (mt_val (me_callB1 (cr_all rfl) sem_all rfl F.n_all bt_all (me_lc (own := [("sign", 2)]) rfl sc_number_in.nd (mi_str (me_var 1)) (blkOk_by (by first | rfl | decide +kernel)) (fun _ _ _ _ _ => mg_name 2 sc_number_in.nd rfl (by first | exact .inl rfl | exact .inr rfl)) (fun _ _ _ _ _ => mts_nil) (fun _ _ _ _ _ => me_cmp op_in_sign sem_inS (me_var 2) me_str))))))))
 (ss_one (st_ret me_non))
 ss_nil)
 (ss_cons (st_if (mt_w (mw_and (mt_cmp (op_eqA hr.units) sem_eq (me_ixV (hu_of hr) 1 me_int) me_str) (mw_and1 (mt_cmp (op_neA hr.units) sem_ne (me_var 0) me_str))))
 (ss_one (st_ret me_non))
 ss_nil)
 (ss_one (st_ret (me_callT cr_intS sem_intS rfl F.n_int bt_int (ma_cons (me_var 0) ma_nil))))))))
theorem sc_numbers_in : FnScope ["words", "found", "word"] ["words"] (defScope s_numbers_in) := ⟨rfl, rfl, rfl, by decide +kernel, rfl, by decide +kernel, by decide +kernel⟩
theorem ok_numbers_in {P : Program} {w : World} {K : PySem.W.Frag} {mg : Str -> Option Value} {base : Heap} (F : Fx P w K mg) : DefOk P w K mg base "numbers_in" 2 1 m_numbers_in := def_ok F.d_numbers_in sc_numbers_in (fun _ _ _ _ _ _ us hl => match us, hl with | [_], _ => rfl) fun a cdv A outer s H E hr =>
 (ss_cons (st_setLc (own := [("word", 2)]) rfl sc_numbers_in.nd rfl rfl (by first | rfl | exact sw_true rfl rfl rfl (by decide +kernel)) (mi_list (me_var 0)) (blkOk_by (by first | rfl | decide +kernel)) (fun _ _ _ _ _ => mg_name 2 sc_numbers_in.nd rfl (by first | exact .inl rfl | exact .inr rfl)) (fun _ _ _ _ _ => mts_nil) (fun _ _ _ _ _ => me_fn ((ok_number_in F).mono (by first | decide | (simp only [Nat.add_eq]; omega))) hr takes0 rfl (ma_cons (me_var 2) ma_nil) (lenIs_cons lenIs_nil)))
 (ss_cons (st_if (mt_inV 1 (op_inAny (hu65_of hr)) sem_inAnyAt me_non)
 (ss_one (st_ret me_non))
 ss_nil)
 (ss_one (st_ret (me_var 1)))))
theorem sc_BadText___init__ : FnScope ["self", "at"] ["self", "at"] (defScope s_BadText___init__) := ⟨rfl, rfl, rfl, by decide +kernel, rfl, by decide +kernel, by decide +kernel⟩
theorem ei_BadText {P : Program} {w : World} {K : PySem.W.Frag} {mg : Str -> Option Value} {base : Heap} (F : Fx P w K mg) : ExIOk P w K mg base "BadText" 1 ["at"] := exI_one F.d_BadText___init__ sc_BadText___init__ (fun _ _ _ _ _ _ us hl => match us, hl with | [_, _], _ => rfl) fun fI C0 cdv A outer s H E h7 h8 h9 =>
  pss_cons (ps_expr (pe_ownInit rfl h7 h8 h9 (pa_cons (pe_var (i := 0) rfl (by first | exact Or.inl rfl | exact Or.inr (Or.inl rfl) | exact Or.inr (Or.inr rfl))) (pa_cons pe_str pa_nil))))
   (pss_one (ps_ost (pe_var (i := 0) rfl (by first | exact Or.inl rfl | exact Or.inr (Or.inl rfl) | exact Or.inr (Or.inr rfl))) (pe_var (i := 1) rfl (by first | exact Or.inl rfl | exact Or.inr (Or.inl rfl) | exact Or.inr (Or.inr rfl)))))
theorem sc_read_deed : FnScope ["text", "word", "words", "numbers"] ["text"] (defScope s_read_deed) := ⟨rfl, rfl, rfl, by decide +kernel, rfl, by decide +kernel, by decide +kernel⟩
theorem ok_read_deed {P : Program} {w : World} {K : PySem.W.Frag} {mg : Str -> Option Value} {base : Heap} (F : Fx P w K mg) : DefOk P w K mg base "read_deed" 3 1 m_read_deed := def_ok F.d_read_deed sc_read_deed (fun _ _ _ _ _ _ us hl => match us, hl with | [_], _ => rfl) fun a cdv A outer s H E hr =>
 (ss_cons (st_asgSL (i := 1) (j := 2) rfl sc_read_deed.nd rfl rfl (by first | exact .inl rfl | exact .inr rfl) (by first | exact .inl rfl | exact .inr rfl) (me_split (me_var 0) me_str))
 (ss_cons (st_set 3 sc_read_deed.nd rfl (by first | exact .inl rfl | exact .inr rfl) (me_fn ((ok_numbers_in F).mono (by first | decide | (simp only [Nat.add_eq]; omega))) hr (takes_of rfl rfl rfl rfl) rfl (ma_cons (me_var 2) ma_nil) (lenIs_cons lenIs_nil)))
 (ss_cons (st_if (mt_w (mw_or (mt_cmp (op_notInAny (hu65_of hr)) sem_notInAny (me_var 1) (me_glob F.k_DEED_NUMBERS rfl)) (mw_or (mt_cmp op_isN sem_isN (me_var 3) me_non) (mw_or1 (mt_cmp (op_neA hr.units) sem_ne (me_callBV 3 cr_lenA sem_len rfl F.n_len bt_len) (me_ix (hu_of hr) (me_glob F.k_DEED_NUMBERS rfl) (me_var 1)))))))
 (ss_one (st_raiseI ((ei_BadText F).mono (by first | decide | (simp only [Nat.add_eq]; omega))) hr (takes_of rfl rfl rfl rfl) rfl (ma_cons me_int ma_nil) (lenIs_cons lenIs_nil)))
 ss_nil)
 (ss_cons (st_if (mt_cmp (op_inAny (hu65_of hr)) sem_inAny (me_var 1) (me_tup (ma_cons me_str (ma_cons me_str ma_nil)) (lenIs_cons (lenIs_cons lenIs_nil))))
 (ss_one (st_ret (me_tup (ma_cons (me_var 1) (ma_cons (me_ixV (hu_of hr) 3 me_int) (ma_cons (me_callT call_tuple_of sem_tuple rfl F.n_tuple bt_tuple (ma_cons (me_slV 3 (mo_some me_int) mo_none) ma_nil)) ma_nil))) (lenIs_cons (lenIs_cons (lenIs_cons lenIs_nil))))))
 ss_nil)
 (ss_one (st_ret (me_add (me_tup (ma_cons (me_var 1) ma_nil) (lenIs_cons lenIs_nil)) (me_callTV 3 call_tuple_of sem_tupleV rfl F.n_tuple bt_tuple))))))))
theorem sc_law_spoilt_row : FnScope ["_law_box_here", "_law_row", "_law_signs", "_law_sign_of", "_law_place", "_law_words", "_law_at", "_law_way", "_law_some"] ["_law_box_here", "_law_row"] (defScope s_law_spoilt_row) := ⟨rfl, rfl, rfl, by decide +kernel, rfl, by decide +kernel, by decide +kernel⟩
theorem ok_law_spoilt_row {P : Program} {w : World} {K : PySem.W.Frag} {mg : Str -> Option Value} {base : Heap} (F : Fx P w K mg) : DefOk P w K mg base "_law_spoilt_row" 2 2 m_law_spoilt_row := def_ok F.d_law_spoilt_row sc_law_spoilt_row (fun _ _ _ _ _ _ us hl => match us, hl with | [_, _], _ => rfl) fun a cdv A outer s H E hr =>
 (ss_cons (st_set 2 sc_law_spoilt_row.nd rfl (by first | exact .inl rfl | exact .inr rfl) me_str)
 (ss_cons (st_set 3 sc_law_spoilt_row.nd rfl (by first | exact .inl rfl | exact .inr rfl) (me_ixV (hu_of hr) 2 (me_fnX 0 ((ok_law_draw F).mono (by first | decide | (simp only [Nat.add_eq]; omega))) hr (takes_of rfl rfl rfl rfl) rfl (ma_cons (me_callBV 2 cr_lenA sem_len rfl F.n_len bt_len) ma_nil) (lenIs_cons lenIs_nil))))
 (ss_cons (st_if (mt_cmp (op_eqA hr.units) sem_eq (me_fnX 0 ((ok_law_draw F).mono (by first | decide | (simp only [Nat.add_eq]; omega))) hr (takes_of rfl rfl rfl rfl) rfl (ma_cons me_int ma_nil) (lenIs_cons lenIs_nil)) me_int)
 (ss_one (st_set 3 sc_law_spoilt_row.nd rfl (by first | exact .inl rfl | exact .inr rfl) (me_ix (hu_of hr) (me_lst (ma_cons me_str (ma_cons me_str (ma_cons me_str (ma_cons me_str (ma_cons me_str (ma_cons me_str ma_nil)))))) (lenIs_cons (lenIs_cons (lenIs_cons (lenIs_cons (lenIs_cons (lenIs_cons lenIs_nil))))))) (me_fnX 0 ((ok_law_draw F).mono (by first | decide | (simp only [Nat.add_eq]; omega))) hr (takes_of rfl rfl rfl rfl) rfl (ma_cons me_int ma_nil) (lenIs_cons lenIs_nil)))))
 ss_nil)
 (ss_cons (st_set 4 sc_law_spoilt_row.nd rfl (by first | exact .inl rfl | exact .inr rfl) (me_fnX 0 ((ok_law_draw F).mono (by first | decide | (simp only [Nat.add_eq]; omega))) hr (takes_of rfl rfl rfl rfl) rfl (ma_cons (me_add (me_callBV 1 cr_lenA sem_len rfl F.n_len bt_len) me_int) ma_nil) (lenIs_cons lenIs_nil)))
 (ss_cons (st_set 5 sc_law_spoilt_row.nd rfl (by first | exact .inl rfl | exact .inr rfl) (me_split (me_var 1) me_str))
 (ss_cons (st_set 6 sc_law_spoilt_row.nd rfl (by first | exact .inl rfl | exact .inr rfl) (me_fnX 0 ((ok_law_draw F).mono (by first | decide | (simp only [Nat.add_eq]; omega))) hr (takes_of rfl rfl rfl rfl) rfl (ma_cons (me_callBV 5 cr_lenA sem_len rfl F.n_len bt_len) ma_nil) (lenIs_cons lenIs_nil)))
 (ss_cons (st_set 7 sc_law_spoilt_row.nd rfl (by first | exact .inl rfl | exact .inr rfl) (me_fnX 0 ((ok_law_draw F).mono (by first | decide | (simp only [Nat.add_eq]; omega))) hr (takes_of rfl rfl rfl rfl) rfl (ma_cons me_int ma_nil) (lenIs_cons lenIs_nil)))
 (ss_cons (st_if (mt_cmp (op_eqA hr.units) sem_eq (me_var 7) me_int)
 (ss_one (st_ret (me_add (me_add (me_slV 1 mo_none (mo_some (me_var 4))) (me_var 3)) (me_slV 1 (mo_some (me_var 4)) mo_none))))
 ss_nil)
 (ss_cons (st_if (mt_cmp (op_eqA hr.units) sem_eq (me_var 7) me_int)
 (ss_one (st_ret (me_add (me_slV 1 mo_none (mo_some (me_var 4))) (me_slV 1 (mo_some (me_add (me_var 4) me_int)) mo_none))))
 ss_nil)
 (ss_cons (st_if (mt_cmp (op_eqA hr.units) sem_eq (me_var 7) me_int)
 (ss_one (st_ret (me_add (me_add (me_slV 1 mo_none (mo_some (me_var 4))) (me_var 3)) (me_slV 1 (mo_some (me_add (me_var 4) me_int)) mo_none))))
 ss_nil)
 (ss_cons (st_if (mt_cmp (op_eqA hr.units) sem_eq (me_var 7) me_int)
 (ss_one (st_set 5 sc_law_spoilt_row.nd rfl (by first | exact .inl rfl | exact .inr rfl) (me_add (me_slV 5 mo_none (mo_some (me_var 6))) (me_slV 5 (mo_some (me_add (me_var 6) me_int)) mo_none))))
 ss_nil)
 (ss_cons (st_if (mt_cmp (op_eqA hr.units) sem_eq (me_var 7) me_int)
 (ss_one (st_set 5 sc_law_spoilt_row.nd rfl (by first | exact .inl rfl | exact .inr rfl) (me_add (me_add (me_slV 5 mo_none (mo_some (me_var 6))) (me_lst (ma_cons (me_ixV (hu_of hr) 5 (me_var 6)) ma_nil) (lenIs_cons lenIs_nil))) (me_slV 5 (mo_some (me_var 6)) mo_none))))
 ss_nil)
 (ss_cons (st_if (mt_cmp (op_eqA hr.units) sem_eq (me_var 7) me_int)
 (ss_cons (st_set 8 sc_law_spoilt_row.nd rfl (by first | exact .inl rfl | exact .inr rfl) (me_lst (ma_cons me_str (ma_cons me_str (ma_cons me_str (ma_cons me_str (ma_cons me_str (ma_cons me_str (ma_cons me_str (ma_cons me_str (ma_cons me_str (ma_cons me_str (ma_cons me_str (ma_cons me_str (ma_cons me_str ma_nil))))))))))))) (lenIs_cons (lenIs_cons (lenIs_cons (lenIs_cons (lenIs_cons (lenIs_cons (lenIs_cons (lenIs_cons (lenIs_cons (lenIs_cons (lenIs_cons (lenIs_cons (lenIs_cons lenIs_nil)))))))))))))))
 (ss_one (st_sub 5 (me_var 6) (me_ixV (hu_of hr) 8 (me_fnX 0 ((ok_law_draw F).mono (by first | decide | (simp only [Nat.add_eq]; omega))) hr (takes_of rfl rfl rfl rfl) rfl (ma_cons me_int ma_nil) (lenIs_cons lenIs_nil))))))
 ss_nil)
 (ss_cons (st_if (mt_cmp (op_eqA hr.units) sem_eq (me_var 7) me_int)
 (ss_one (st_sub2 rfl 5 (me_var 6) me_int (ma_cons (me_ixV (hu_of hr) 5 me_int) (ma_cons (me_ixV (hu_of hr) 5 (me_var 6)) ma_nil)) (lenIs_cons (lenIs_cons lenIs_nil))))
 ss_nil)
 (ss_one (st_ret (me_join me_str (me_var 5))))))))))))))))))
theorem sc_law_number : FnScope ["_law_word", "_law_digits", "_law_sign_of"] ["_law_word"] (defScope s_law_number) := ⟨rfl, rfl, rfl, by decide +kernel, rfl, by decide +kernel, by decide +kernel⟩
theorem ok_law_number {P : Program} {w : World} {K : PySem.W.Frag} {mg : Str -> Option Value} {base : Heap} (F : Fx P w K mg) : DefOk P w K mg base "_law_number" 1 1 m_law_number := def_ok F.d_law_number sc_law_number (fun _ _ _ _ _ _ us hl => match us, hl with | [_], _ => rfl) fun a cdv A outer s H E hr =>
 (ss_cons (st_set 1 sc_law_number.nd rfl (by first | exact .inl rfl | exact .inr rfl) (me_var 0))
 (ss_cons (st_if (mt_cmp (op_eqA hr.units) sem_eq (me_slV 0 mo_none (mo_some me_int)) me_str)
 (ss_one (st_set 1 sc_law_number.nd rfl (by first | exact .inl rfl | exact .inr rfl) (me_slV 0 (mo_some me_int) mo_none)))
 ss_nil)
 (ss_cons (st_if (mt_w (mw_or (mt_cmp op_lt sem_cmpI (me_callBV 1 cr_lenA sem_len rfl F.n_len bt_len) me_int) (mw_or (mt_cmp op_gt sem_cmpI (me_callBV 1 cr_lenA sem_len rfl F.n_len bt_len) me_int) (mw_or1 (mt_not (mt_val (me_callB1 (cr_all rfl) sem_all rfl F.n_all bt_all (me_lc (own := [("_law_sign_of", 2)]) rfl sc_law_number.nd (mi_str (me_var 1)) (blkOk_by (by first | rfl | decide +kernel)) (fun _ _ _ _ _ => mg_name 2 sc_law_number.nd rfl (by first | exact .inl rfl | exact .inr rfl)) (fun _ _ _ _ _ => mts_nil) (fun _ _ _ _ _ => me_cmp op_in_sign sem_inS (me_var 2) me_str)))))))))
 (ss_one (st_ret me_non))
 ss_nil)
 (ss_cons (st_if (mt_w (mw_and (mt_cmp (op_eqA hr.units) sem_eq (me_ixV (hu_of hr) 1 me_int) me_str) (mw_and1 (mt_cmp (op_neA hr.units) sem_ne (me_var 0) me_str))))
 (ss_one (st_ret me_non))
 ss_nil)
 (ss_one (st_ret (me_callT cr_intS sem_intS rfl F.n_int bt_int (ma_cons (me_var 0) ma_nil))))))))
theorem sc_law_read_deed : FnScope ["_law_row", "_law_words", "_law_sizes", "_law_numbers", "_law_word"] ["_law_row"] (defScope s_law_read_deed) := ⟨rfl, rfl, rfl, by decide +kernel, rfl, by decide +kernel, by decide +kernel⟩
theorem ok_law_read_deed {P : Program} {w : World} {K : PySem.W.Frag} {mg : Str -> Option Value} {base : Heap} (F : Fx P w K mg) : DefOk P w K mg base "_law_read_deed" 2 1 m_law_read_deed := def_ok F.d_law_read_deed sc_law_read_deed (fun _ _ _ _ _ _ us hl => match us, hl with | [_], _ => rfl) fun a cdv A outer s H E hr =>
 (ss_cons (st_set 1 sc_law_read_deed.nd rfl (by first | exact .inl rfl | exact .inr rfl) (me_split (me_var 0) me_str))
 (ss_cons (st_set 2 sc_law_read_deed.nd rfl (by first | exact .inl rfl | exact .inr rfl) (me_disp (n := 0) (pd_cons pk_str me_int (pd_cons pk_str me_int (pd_cons pk_str me_int (pd_cons pk_str me_int (pd_cons pk_str me_int (pd_cons pk_str me_int (pd_cons pk_str me_int (pd_cons pk_str me_int pd_nil)))))))) (by decide) (by decide)))
 (ss_cons (st_setLc (own := [("_law_word", 4)]) rfl sc_law_read_deed.nd rfl rfl (by first | rfl | exact sw_true rfl rfl rfl (by decide +kernel)) (mi_list (me_slV 1 (mo_some me_int) mo_none)) (blkOk_by (by first | rfl | decide +kernel)) (fun _ _ _ _ _ => mg_name 4 sc_law_read_deed.nd rfl (by first | exact .inl rfl | exact .inr rfl)) (fun _ _ _ _ _ => mts_nil) (fun _ _ _ _ _ => me_fn ((ok_law_number F).mono (by first | decide | (simp only [Nat.add_eq]; omega))) hr takes0 rfl (ma_cons (me_var 4) ma_nil) (lenIs_cons lenIs_nil)))
 (ss_cons (st_if (mt_w (mw_or (mt_inV 2 (op_notInAny (hu65_of hr)) sem_notInAnyAt (me_ixV (hu_of hr) 1 me_int)) (mw_or (mt_inV 3 (op_inAny (hu65_of hr)) sem_inAnyAt me_non) (mw_or1 (mt_cmp (op_neA hr.units) sem_ne (me_callBV 3 cr_lenA sem_len rfl F.n_len bt_len) (me_ixV (hu_of hr) 2 (me_ixV (hu_of hr) 1 me_int)))))))
 (ss_one (st_ret me_non))
 ss_nil)
 (ss_cons (st_if (mt_cmp (op_inAny (hu65_of hr)) sem_inAny (me_ixV (hu_of hr) 1 me_int) (me_tup (ma_cons me_str (ma_cons me_str ma_nil)) (lenIs_cons (lenIs_cons lenIs_nil))))
 (ss_one (st_ret (me_tup (ma_cons (me_ixV (hu_of hr) 1 me_int) (ma_cons (me_ixV (hu_of hr) 3 me_int) (ma_cons (me_callT call_tuple_of sem_tuple rfl F.n_tuple bt_tuple (ma_cons (me_slV 3 (mo_some me_int) mo_none) ma_nil)) ma_nil))) (lenIs_cons (lenIs_cons (lenIs_cons lenIs_nil))))))
 ss_nil)
 (ss_one (st_ret (me_add (me_tup (ma_cons (me_ixV (hu_of hr) 1 me_int) ma_nil) (lenIs_cons lenIs_nil)) (me_callTV 3 call_tuple_of sem_tupleV rfl F.n_tuple bt_tuple)))))))))
theorem sc_law_told : FnScope ["_law_text", "_law_found", "e"] ["_law_text"] (defScope s_law_told) := ⟨rfl, rfl, rfl, by decide +kernel, rfl, by decide +kernel, by decide +kernel⟩
theorem ok_law_told {P : Program} {w : World} {K : PySem.W.Frag} {mg : Str -> Option Value} {base : Heap} (F : Fx P w K mg) : DefOk P w K mg base "_law_told" 4 1 m_law_told := def_ok F.d_law_told sc_law_told (fun _ _ _ _ _ _ us hl => match us, hl with | [_], _ => rfl) fun a cdv A outer s H E hr =>
 (ss_cons (st_set 1 sc_law_told.nd rfl (by first | exact .inl rfl | exact .inr rfl) me_non)
 (ss_cons (st_tryAs 2 sc_law_told.nd rfl rfl F.exf rfl rfl (takes_of rfl rfl rfl rfl) (fun W pn xe tk ps =>
 (ss_one (st_set 1 sc_law_told.nd rfl (by first | exact .inl rfl | exact .inr rfl) (me_fn ((ok_read_deed F).mono (by first | decide | (simp only [Nat.add_eq]; omega))) hr tk rfl (ma_cons (me_var 0) ma_nil) (lenIs_cons lenIs_nil)))))
 (fun a oe pn c l C dd f lc hz hfl =>
 (ss_one (st_set 1 sc_law_told.nd rfl (by first | exact .inl rfl | exact .inr rfl) (me_xf 2 f lc F.nf_at hz hfl)))))
 (ss_one (st_ret (me_var 1)))))
theorem sc_law : FnScope ["_law_script", "_law_box_here", "_law_turn", "_law_deed", "_law_row", "_law_again", "_law_due", "_law_some"] ["_law_script"] (defScope s_law) := ⟨rfl, rfl, rfl, by decide +kernel, rfl, by decide +kernel, by decide +kernel⟩
theorem ok_law {P : Program} {w : World} {K : PySem.W.Frag} {mg : Str -> Option Value} {base : Heap} (F : Fx P w K mg) {a : Addr} {fd : FuncData} (FD : FunD K "law" "law" (defArgs s_law) (defBody s_law) (defScope s_law) [] [] a fd) : FnOk P w K mg base (L2.CX P w) 9 a fd ["_law_script"] (spM ⟨P, w, K, mg, none⟩ 1 m_law) := def_fn FD sc_law fun cdv A outer s H E hr =>
 (ss_cons (st_set 1 sc_law.nd rfl (by first | exact .inl rfl | exact .inr rfl) (me_fn ((ok_law_box F).mono (by first | decide | (simp only [Nat.add_eq]; omega))) hr (takes_of rfl rfl rfl rfl) rfl (ma_cons (me_var 0) ma_nil) (lenIs_cons lenIs_nil)))
 (ss_cons (st_for (passes_of rfl) rfl (mi_rng1 rfl F.n_range (ma_cons me_int ma_nil)) (mg_name 2 sc_law.nd rfl (by first | exact .inl rfl | exact .inr rfl))
 (ss_cons (st_set 3 sc_law.nd rfl (by first | exact .inl rfl | exact .inr rfl) (me_fnX 1 ((ok_law_any_deed F).mono (by first | decide | (simp only [Nat.add_eq]; omega))) hr (takes_of rfl rfl rfl rfl) rfl ma_nil lenIs_nil))
 (ss_cons (st_set 4 sc_law.nd rfl (by first | exact .inl rfl | exact .inr rfl) (me_fn ((ok_deed_text F).mono (by first | decide | (simp only [Nat.add_eq]; omega))) hr (takes_of rfl rfl rfl rfl) rfl (ma_cons (me_var 3) ma_nil) (lenIs_cons lenIs_nil)))
 (ss_cons (st_if (mt_w (mw_or (mt_not (mt_val (me_fn ((ok_law_same F 6).mono (by first | decide | (simp only [Nat.add_eq]; omega))) hr (takes_of rfl rfl rfl rfl) rfl (ma_cons (me_var 4) (ma_cons (me_fn ((ok_law_deed_row F).mono (by first | decide | (simp only [Nat.add_eq]; omega))) hr (takes_of rfl rfl rfl rfl) rfl (ma_cons (me_var 3) ma_nil) (lenIs_cons lenIs_nil)) ma_nil)) (lenIs_cons (lenIs_cons lenIs_nil))))) (mw_or1 (mt_not (mt_val (me_fn ((ok_law_same F 6).mono (by first | decide | (simp only [Nat.add_eq]; omega))) hr (takes_of rfl rfl rfl rfl) rfl (ma_cons (me_fn ((ok_read_deed F).mono (by first | decide | (simp only [Nat.add_eq]; omega))) hr (takes_of rfl rfl rfl rfl) rfl (ma_cons (me_var 4) ma_nil) (lenIs_cons lenIs_nil)) (ma_cons (me_var 3) ma_nil)) (lenIs_cons (lenIs_cons lenIs_nil))))))))
 (ss_one (st_ret me_bl))
 ss_nil)
 (ss_cons (st_for (passes_of rfl) rfl (mi_rng1 rfl F.n_range (ma_cons (me_add me_int (me_fnX 1 ((ok_law_draw F).mono (by first | decide | (simp only [Nat.add_eq]; omega))) hr (takes_of rfl rfl rfl rfl) rfl (ma_cons me_int ma_nil) (lenIs_cons lenIs_nil))) ma_nil)) (mg_name 5 sc_law.nd rfl (by first | exact .inl rfl | exact .inr rfl))
 (ss_one (st_set 4 sc_law.nd rfl (by first | exact .inl rfl | exact .inr rfl) (me_fnX 1 ((ok_law_spoilt_row F).mono (by first | decide | (simp only [Nat.add_eq]; omega))) hr (takes_of rfl rfl rfl rfl) rfl (ma_cons (me_var 4) ma_nil) (lenIs_cons lenIs_nil)))))
 (ss_cons (st_set 6 sc_law.nd rfl (by first | exact .inl rfl | exact .inr rfl) (me_fn ((ok_law_read_deed F).mono (by first | decide | (simp only [Nat.add_eq]; omega))) hr (takes_of rfl rfl rfl rfl) rfl (ma_cons (me_var 4) ma_nil) (lenIs_cons lenIs_nil)))
 (ss_cons (st_if (mt_cmp op_isN sem_isN (me_var 6) me_non)
 (ss_one (st_set 6 sc_law.nd rfl (by first | exact .inl rfl | exact .inr rfl) me_int))
 ss_nil)
 (ss_one (st_if (mt_not (mt_val (me_fn ((ok_law_same F 6).mono (by first | decide | (simp only [Nat.add_eq]; omega))) hr (takes_of rfl rfl rfl rfl) rfl (ma_cons (me_fn ((ok_law_told F).mono (by first | decide | (simp only [Nat.add_eq]; omega))) hr (takes_of rfl rfl rfl rfl) rfl (ma_cons (me_var 4) ma_nil) (lenIs_cons lenIs_nil)) (ma_cons (me_var 6) ma_nil)) (lenIs_cons (lenIs_cons lenIs_nil)))))
 (ss_one (st_ret me_bl))
 ss_nil)))))))))
 (ss_cons (st_set 7 sc_law.nd rfl (by first | exact .inl rfl | exact .inr rfl) (me_lst (ma_cons me_str (ma_cons me_str (ma_cons me_str (ma_cons me_str (ma_cons me_str (ma_cons me_str (ma_cons me_str (ma_cons me_str (ma_cons me_str ma_nil))))))))) (lenIs_cons (lenIs_cons (lenIs_cons (lenIs_cons (lenIs_cons (lenIs_cons (lenIs_cons (lenIs_cons (lenIs_cons lenIs_nil)))))))))))
 (ss_one (st_ret (me_callB1 (cr_all rfl) sem_all rfl F.n_all bt_all (me_lc (own := [("_law_row", 4)]) rfl sc_law.nd (mi_list (me_var 7)) (blkOk_by (by first | rfl | decide +kernel)) (fun _ _ _ _ _ => mg_name 4 sc_law.nd rfl (by first | exact .inl rfl | exact .inr rfl)) (fun _ _ _ _ _ => mts_nil) (fun _ _ _ _ _ => me_fn ((ok_law_same F 6).mono (by first | decide | (simp only [Nat.add_eq]; omega))) hr takes0 rfl (ma_cons (me_fn ((ok_law_told F).mono (by first | decide | (simp only [Nat.add_eq]; omega))) hr takes0 rfl (ma_cons (me_var 4) ma_nil) (lenIs_cons lenIs_nil)) (ma_cons me_int ma_nil)) (lenIs_cons (lenIs_cons lenIs_nil))))))))))
theorem facts {P : Program} {w : World} {K : PySem.W.Frag} {h : Heap} {mg : Str -> Option Value} (X : K.In h) (G : h.Ns mainGlobals mg) (c : He.SaysD fa fn K) (m : ex K = true) (mc_DEED_NUMBERS : ConN K w "DEED_NUMBERS" c_DEED_NUMBERS) : Fx P w K mg where
 k_DEED_NUMBERS := conN_ok X G mc_DEED_NUMBERS
 n_all := He.free_ok X G (c.fact 18 rfl)
 n_bool := He.free_ok X G (c.fact 19 rfl)
 n_int := He.free_ok X G (c.fact 20 rfl)
 n_isinstance := He.free_ok X G (c.fact 21 rfl)
 n_len := He.free_ok X G (c.fact 22 rfl)
 n_list := He.free_ok X G (c.fact 23 rfl)
 n_range := He.free_ok X G (c.fact 24 rfl)
 n_str := He.free_ok X G (c.fact 25 rfl)
 n_tuple := He.free_ok X G (c.fact 26 rfl)
 nf_at := noFB_ok X G ((He.ba (He.ba (He.ba m).1).1).1)
 d_BadText___init__ := exIIs_of X G ((He.ba (He.ba (He.ba m).1).1).2) c 11 rfl
 exf := excB_ok X G ((He.ba (He.ba m).1).2)
 k_MOST_FIGURES := conK_ok X G ((He.ba m).2)
 d_law_box := defIs_of X G c 0 (j := 0) rfl rfl
 d_law_draw := defIs_of X G c 1 (j := 1) rfl rfl
 d_law_any_number := defIs_of X G c 2 (j := 2) rfl rfl
 d_law_any_deed := defIs_of X G c 3 (j := 3) rfl rfl
 d_row_text := defIs_of X G c 4 (j := 4) rfl rfl
 d_deed_text := defIs_of X G c 5 (j := 5) rfl rfl
 d_law_whole := defIs_of X G c 6 (j := 6) rfl rfl
 d_law_same := defIs_of X G c 7 (j := 7) rfl rfl
 d_law_deed_row := defIs_of X G c 8 (j := 8) rfl rfl
 d_number_in := defIs_of X G c 9 (j := 9) rfl rfl
 d_numbers_in := defIs_of X G c 10 (j := 10) rfl rfl
 d_read_deed := defIs_of X G c 12 (j := 12) rfl rfl
 d_law_spoilt_row := defIs_of X G c 13 (j := 13) rfl rfl
 d_law_number := defIs_of X G c 14 (j := 14) rfl rfl
 d_law_read_deed := defIs_of X G c 15 (j := 15) rfl rfl
 d_law_told := defIs_of X G c 16 (j := 16) rfl rfl
 d_law := defIs_of X G c 17 (j := 17) rfl rfl
theorem walk (hold : ∀ ns : List Int, ns.length ≤ 63 -> ∃ ρ, m_law [.v (.scr (ns.map D.int))] = .ok (.v (.bl true), ρ)) {l : PySem.W.OpenLaw} {q : Program} {loose : List Str} {XP : (Str -> Option Value) -> Heap -> Prop} {YP : World -> Heap -> Prop} {d : DefRec} {K : Params -> PySem.W.Frag} (hn : l.most = some 63) (hdf : d.params.defaults = []) (hd : d.name = ("law" : Str))
    (hY : ∀ (w : World) (h : Heap), YP w h -> (K w.params).In h) (hF : ∀ w : World, He.SaysD fa fn (K w.params)) (hX : ∀ w : World, ex (K w.params) = true) (hD_DEED_NUMBERS : ∀ w : World, ConN (K w.params) w "DEED_NUMBERS" c_DEED_NUMBERS) :
    PySem.W.WalkO q loose XP YP l.row.toRowW d [] (fun f vs => PySem.call f vs) := by
  refine L2.walk_ofE (n := 63) (k := 9) (x := "_law_script") (CX := CX0) hn (by decide) hdf ⟨rfl, by decide, by decide⟩ ?F (fun _ _ _ _ z => z)
  intro w mg fa h Y G hmg
  rw [hd] at hmg
  have KX := hY w h Y
  have c := hF w
  obtain ⟨fd, FD⟩ := c.def_ 17 (d := dd_law) rfl
  have e := hmg.symm.trans (He.glo_ok KX G (c.fact 17 (f := .glo "law") rfl))
  cases e
  have b := FunD.bindsA (ps := ["_law_script"]) FD fun _ _ _ _ _ _ us hl => match us, hl with | [_], _ => rfl
  exact ⟨K w.params, fd, fun vs H Q _ => spM ⟨l.prog, w, K w.params, mg, none⟩ 1 m_law vs H Q E0, KX, fun s v => b s [v] rfl, fun H a ns hl _ hS => Mp.law_sp (P := l.prog) (w := w) (mg := mg) hS (hold ns hl), fun base _ _ => Mp.fn_closed (ok_law (facts KX G c (hX w) (hD_DEED_NUMBERS w)) FD)⟩
end K67
namespace K67
open PySem PySem.Spec Mp Cg Ck TL
open PyProof.Rows hiding cutD
open L2 hiding way
theorem e_box : K67.m_law_box = Ck.m_law_box := by kernel_rfl
theorem e_draw : K67.m_law_draw = Ck.m_law_draw := by kernel_rfl
theorem e_any : K67.m_law_any_deed = Ck.m_law_any_deed := by kernel_rfl
theorem e_text : K67.m_deed_text = Ck.m_deed_text := by kernel_rfl
theorem e_row : K67.m_law_deed_row = Ck.m_law_deed_row := by kernel_rfl
theorem e_read : K67.m_read_deed = Ck.m_read_deed := by kernel_rfl
theorem e_lread : K67.m_law_read_deed = Ck.m_law_read_deed := by kernel_rfl
theorem e_spoilt : K67.m_law_spoilt_row = Ck.m_law_spoilt_row := by kernel_rfl
theorem e_same : K67.m_law_same 6 = Mp.m_same 6 := by kernel_rfl
theorem bt1 : (K67.etab.lookup ("BadText" : Str)).isSome = true := by decide +kernel
theorem bt2 : isaB K67.etab "BadText" "BadText" = true := by decide +kernel
theorem told_wr {w : Str} (hw : w.length < 10000) : WR (K67.m_law_told [.v (.str w)]) fun s _ => s = .v ((readD w).getD (.int 0)) := by
 unfold K67.m_law_told K67.b_law_told
 rw [e_read]
 refine wr_fnM (ws_seq (ws_set1 ⟨_, _, rfl, rfl, ?_⟩))
 dsimp only
 refine ws_norm (ρ' := [.v (.str w), .v .non, .no]) rfl ?_
 cases e : readD w with
 | some d =>
  refine ws_seq (ws_tryOk (ws_set1 (wr_fn' (wl_cons ⟨_, _, rfl, _, rfl, wl_nil ((read_deed_wr hw e).mono fun s y hs => ?_)⟩))))
  subst hs
  exact ⟨⟨_, rfl⟩, rfl, ws_ret ⟨_, _, rfl, rfl⟩⟩
 | none =>
  refine ws_seq (ws_tryErr (c := ⟨"BadText", ["at"], [.int 0]⟩) bt1 bt2 (es_set (er_fn (wl_cons ⟨_, _, rfl, _, rfl, wl_nil ⟨read_deed_er hw e, ?_⟩⟩))))
  refine ws_set1 (wr_xf (ns := ["at"]) (vs := [.int 0]) (d := .int 0) rfl (by rfl) ⟨rfl, _, rfl, rfl, ws_ret ⟨_, _, rfl, rfl⟩⟩)
theorem same_read {w : Str} {d : D} (h : readD w = some d) : SameD 6 d := by
 unfold readD at h
 cases e : words w with
 | nil => rw [e] at h; cases h
 | cons x r =>
  rw [e] at h
  dsimp only at h
  split at h
  ·rename_i ok
   cases h
   generalize r.map numIn = L at ok
   have hl : L.length ≤ 4 := by
    rcases sz_cases ok.1 with ⟨_, h⟩ | ⟨_, h⟩ | ⟨_, h⟩ | ⟨_, h⟩ | ⟨_, h⟩ | ⟨_, h⟩ | ⟨_, h⟩ | ⟨_, h⟩ <;> omega
   have ho : ∀ k, ∀ o ∈ L, SameD (k + 1) (optD o) := fun k o ho => by
    cases o with
    | none => exact absurd ho ok.2
    | some n => exact SameD.int k n
   unfold deedD
   split
   ·refine SameD.tup (by simp) fun d hd => ?_
    simp only [List.mem_cons, List.not_mem_nil, or_false] at hd
    rcases hd with rfl | rfl | rfl
    ·exact SameD.str 4 x
    ·cases L with
     | nil =>
      rcases sz_cases ok.1 with ⟨_, h⟩ | ⟨_, h⟩ | ⟨_, h⟩ | ⟨_, h⟩ | ⟨_, h⟩ | ⟨_, h⟩ | ⟨_, h⟩ | ⟨_, h⟩ <;> cases h
     | cons o L => exact ho 4 o (by simp)
    ·refine SameD.tup (by simp; omega) fun d hd => ?_
     obtain ⟨o, h, rfl⟩ := List.mem_map.mp hd
     exact ho 3 o (List.mem_of_mem_tail h)
   ·refine SameD.tup (by simp; omega) fun d hd => ?_
    rcases List.mem_cons.mp hd with rfl | hd
    ·exact SameD.str 4 x
    ·obtain ⟨o, h, rfl⟩ := List.mem_map.mp hd
     exact ho 4 o h
  ·cases h
theorem wb4 {w : Str} {j : Nat} (h : w.length ≤ 180 * 4 ^ j) (hj : j < 2) : w.length < 10000 /\ ∀ w' : Str, w'.length ≤ 3 * w.length + 20 -> w'.length ≤ 180 * 4 ^ (j + 1) := by
 have : j = 0 \/ j = 1 := by omega
 rcases this with rfl | rfl
 ·simp only [Nat.reducePow, Nat.reduceMul, Nat.reduceAdd] at h ⊢
  exact ⟨by omega, fun w' h' => by omega⟩
 ·simp only [Nat.reducePow, Nat.reduceMul, Nat.reduceAdd] at h ⊢
  exact ⟨by omega, fun w' h' => by omega⟩
def nine : List Str := ["", " ", "move", "move 1 2 3", "flip 1 2 ", "wish 1 2\n", "fasten 01", "loosen --1", "Move 1 2 3 4"]
theorem nine_none : ∀ w ∈ nine, (readD w).isNone = true /\ w.length < 10000 := by decide +kernel
def st (sc b : D) (x2 x3 x4 x5 x6 : Mp.Slot) : ME := [.v sc, .own b, x2, x3, x4, x5, x6, .no]
theorem law_wr (ns : List Int) : WR (K67.m_law [.v (.scr (ns.map D.int))]) fun s _ => s = .v (.bl true) := by
 have hbox := box_wr ns
 unfold K67.m_law K67.b_law
 rw [e_box, e_any, e_text, e_row, e_read, e_lread, e_spoilt, e_same]
 generalize D.scr (ns.map D.int) = sc at *
 refine wr_fnM (ws_seq (ws_set1 (wr_fn' (wl_cons ⟨_, _, rfl, _, rfl, wl_nil (hbox.mono fun s y hs => ?_)⟩))))
 obtain ⟨b, rfl, bx⟩ := hs
 refine ⟨⟨_, rfl⟩, rfl, ?_⟩
 dsimp only
 refine ws_norm (ρ' := st sc b .no .no .no .no .no) rfl ?_
 refine ws_seq (ws_for (wi_rng (wl_cons ⟨_, _, rfl, _, rfl, wl_nil ⟨9, rfl, rfl, ?_⟩⟩)))
 refine ws_loop (fun i ρ => ∃ b x2 x3 x4 x5 x6, ρ = st sc b x2 x3 x4 x5 x6 /\ Bx b /\ (x4 = .no \/ ∃ d, x4 = .v d)) ⟨b, _, _, _, _, _, rfl, bx, .inl rfl⟩ ?_ ?_
 ·rintro i hi ρ ⟨b, x2, x3, x4, x5, x6, rfl, bx, -⟩
  refine ⟨_, rfl, ?_⟩
  generalize (rngL 0 (9 : Int).toNat)[i] = k
  refine ws_norm (ρ' := st sc b (.v k) x3 x4 x5 x6) rfl ?_
  refine ws_seq (ws_set1 (wr_fnX (b0 := b) rfl (wl_nil ⟨b, rfl, (any_deed_wr bx).mono ?_⟩)))
  rintro s x ⟨dd, b, x', rfl, rfl, bx, hd⟩
  refine ⟨⟨_, rfl⟩, b, x', rfl, rfl, ?_⟩
  have h40 : Num40 dd.ns := fun n hn => Nat.lt_trans (hd n hn) (by decide)
  have rl := row_len (nm := dd.nm) h40
  have nl := nm_len dd
  have ll := ns_len dd
  dsimp only
  refine ws_norm (ρ' := st sc b (.v k) (.v dd.d) x4 x5 x6) rfl ?_
  refine ws_seq (ws_set1 (wr_fn' (wl_cons ⟨_, _, rfl, _, rfl, wl_nil ((deed_text_wr dd h40).mono fun s y hs => ?_)⟩)))
  subst hs
  refine ⟨⟨_, rfl⟩, rfl, ?_⟩
  dsimp only
  refine ws_norm (ρ' := st sc b (.v k) (.v dd.d) (.v (.str (rowOf dd.nm dd.ns))) x5 x6) rfl ?_
  refine ws_seq (ws_if (wb_or (wb_not (wb_tst (wr_fn' (wl_cons ⟨_, _, rfl, _, rfl, wl_cons (wr_fn' (wl_cons ⟨_, _, rfl, _, rfl, wl_nil ((law_deed_row_wr dd h40).mono fun s y hs => ?_)⟩))⟩))))))
  subst hs
  refine ⟨⟨_, rfl⟩, _, rfl, wl_nil ((SameD.str 5 (rowOf dd.nm dd.ns)).wr.mono fun s y hs => ?_)⟩
  subst hs
  refine ⟨⟨_, rfl⟩, true, rfl, fun z => (by cases z), fun _ => ?_⟩
  refine wb_not (wb_tst (wr_fn' (wl_cons (wr_fn' (wl_cons ⟨_, _, rfl, _, rfl, wl_nil ((read_deed_wr (by omega) (read_row dd hd)).mono fun s y hs => ?_)⟩)))))
  subst hs
  refine ⟨⟨_, rfl⟩, _, rfl, wl_cons ⟨_, _, rfl, _, rfl, wl_nil ((deed_same 3 dd).wr.mono fun s y hs => ?_)⟩⟩
  subst hs
  refine ⟨⟨_, rfl⟩, true, rfl, fun z => (by cases z), fun _ => ws_skip ?_⟩
  refine ws_cut (fun ρ => ∃ b w x5, ρ = st sc b (.v k) (.v dd.d) (.v (.str w)) x5 x6 /\ Bx b /\ w.length < 10000) ?_ ?_
  ·refine ws_for (wi_rng (wl_cons (wr_op ⟨_, _, rfl, _, rfl, ?_⟩)))
   rw [e_draw]
   refine draw_x rfl (wl_cons ⟨_, _, rfl, _, rfl, wl_nil ⟨2, b, rfl, rfl, bx, by constructor <;> decide, fun r b r0 r1 bx => ?_⟩⟩)
   refine ⟨_, rfl, .v (.int (1 + r)), rfl, _, rfl, wl_nil ⟨1 + r, rfl, ?_, ?_⟩⟩
   ·have : r = 0 \/ r = 1 := by omega
    rcases this with rfl | rfl <;> rfl
   have tl : (rngL 0 (1 + r).toNat).length ≤ 2 := by rw [rngL_len]; omega
   refine ws_loop (fun j ρ => ∃ b w x5, ρ = st sc b (.v k) (.v dd.d) (.v (.str w)) x5 x6 /\ Bx b /\ w.length ≤ 180 * 4 ^ j) ⟨b, _, _, rfl, bx, by simp; omega⟩ ?_ ?_
   ·rintro j hj ρ ⟨b, w, x5, rfl, bx, hw⟩
    refine ⟨_, rfl, ?_⟩
    refine ws_set1 (wr_fnX (b0 := b) rfl (wl_cons ⟨_, _, rfl, _, rfl, wl_nil ⟨b, rfl, (spoilt_row_wr bx (wb4 hw (by omega)).1).mono ?_⟩⟩))
    rintro s x ⟨w', b', x', rfl, rfl, bx', hw'⟩
    refine ⟨⟨_, rfl⟩, b', x', rfl, rfl, b', w', _, rfl, bx', ?_⟩
    exact (wb4 hw (by omega)).2 w' hw'
   ·rintro ρ ⟨b, w, x5, rfl, bx, hw⟩
    have : w.length ≤ 180 * 4 ^ 2 := Nat.le_trans hw (Nat.mul_le_mul_left _ (Nat.pow_le_pow_right (by decide) tl))
    exact ⟨_, rfl, b, w, x5, rfl, bx, by simp at this; omega⟩
  rintro ρ ⟨b, w, x5, rfl, bx, hw⟩
  refine ws_seq (ws_set1 (wr_fn' (wl_cons ⟨_, _, rfl, _, rfl, wl_nil ((law_read_deed_wr hw).mono fun s y hs => ?_)⟩)))
  subst hs
  refine ⟨⟨_, rfl⟩, rfl, ?_⟩
  dsimp only
  refine ws_norm (ρ' := st sc b (.v k) (.v dd.d) (.v (.str w)) x5 (.v ((readD w).getD .non))) rfl ?_
  have ht := told_wr hw
  have fin : ∀ x : D, SameD 6 x -> WR (K67.m_law_told [.v (.str w)]) (fun s _ => s = .v x) -> WS (mIfS (mNotB (mTst (mFn (Mp.m_same 6) (mCons (mFn K67.m_law_told (mCons (mVar 4) mNil)) (mCons (mVar 6) mNil))))) (mRet (mC (.bl false))) mSkip (st sc b (.v k) (.v dd.d) (.v (.str w)) x5 (.v x))) fun f => f = .nx (st sc b (.v k) (.v dd.d) (.v (.str w)) x5 (.v x)) := by
   intro x sx hx
   refine ws_if (wb_not (wb_tst (wr_fn' (wl_cons (wr_fn' (wl_cons ⟨_, _, rfl, _, rfl, wl_nil (hx.mono fun s y hs => ?_)⟩))))))
   subst hs
   refine ⟨⟨_, rfl⟩, _, rfl, wl_cons ⟨_, _, rfl, _, rfl, wl_nil (sx.wr.mono fun s y hs => ?_)⟩⟩
   subst hs
   exact ⟨⟨_, rfl⟩, true, rfl, fun z => (by cases z), fun _ => ws_skip rfl⟩
  cases e : readD w with
  | none =>
   rw [e] at ht
   refine ws_seq (ws_if (wb_tst (wr_op ⟨_, _, rfl, _, rfl, _, _, rfl, _, rfl, .v (.bl true), rfl, _, rfl, fun _ => ws_set1 ⟨_, _, rfl, rfl, ?_⟩, fun z => by cases z⟩)))
   dsimp only
   refine ws_norm (ρ' := st sc b (.v k) (.v dd.d) (.v (.str w)) x5 (.v (.int 0))) rfl ?_
   refine (fin (.int 0) (SameD.int 5 0) ht).mono fun f hf => ?_
   subst hf
   exact ⟨b, _, _, _, _, _, rfl, bx, .inr ⟨_, rfl⟩⟩
  | some d =>
   rw [e] at ht
   have nn : gIsN d .non = some (.v (.bl false)) := by
    have := e
    unfold readD at this
    split at this
    ·cases this
    ·split at this
     ·cases this
      unfold deedD
      split <;> rfl
     ·cases this
   refine ws_seq (ws_if (wb_tst (wr_op ⟨_, _, rfl, _, rfl, _, _, rfl, _, rfl, _, nn, _, rfl, fun z => (by cases z), fun _ => ws_skip ?_⟩)))
   refine (fin d (same_read e) ht).mono fun f hf => ?_
   subst hf
   exact ⟨b, _, _, _, _, _, rfl, bx, .inr ⟨_, rfl⟩⟩
 ·rintro ρ ⟨b, x2, x3, x4, x5, x6, rfl, bx, h4⟩
  refine ws_seq (ws_set1 (wr_lst ?_))
  refine wl_cons ⟨_, _, rfl, _, rfl, wl_cons ⟨_, _, rfl, _, rfl, wl_cons ⟨_, _, rfl, _, rfl, wl_cons ⟨_, _, rfl, _, rfl, wl_cons ⟨_, _, rfl, _, rfl, wl_cons ⟨_, _, rfl, _, rfl, wl_cons ⟨_, _, rfl, _, rfl, wl_cons ⟨_, _, rfl, _, rfl, wl_cons ⟨_, _, rfl, _, rfl, wl_nil ⟨rfl, ?_⟩⟩⟩⟩⟩⟩⟩⟩⟩⟩
  dsimp only
  refine ws_norm (ρ' := [.v sc, .own b, x2, x3, x4, x5, x6, .own (.lst (nine.map .str))]) rfl ?_
  refine ws_ret (wr_call1 (wr_lcI (wi_lst ⟨_, _, rfl, _, rfl, nine.map .str, rfl, ?_, by decide, fun j acc ρ => acc = (List.replicate j true).map D.bl /\ ρ = [.v sc, .own b, x2, x3, .no, x5, x6, .v (.lst (nine.map .str))], ⟨rfl, rfl⟩, ?_, ?_⟩)))
  ·rcases h4 with rfl | ⟨d, rfl⟩ <;> rfl
  ·rintro j hj acc ρ ⟨rfl, rfl⟩
   have hj' : j < nine.length := by simpa using hj
   rw [List.getElem_map]
   obtain ⟨n1, n2⟩ := nine_none nine[j] (List.getElem_mem hj')
   have ht := told_wr n2
   rw [Option.isNone_iff_eq_none.mp n1] at ht
   refine ⟨_, rfl, wb_yes ⟨fun _ => ?_, fun z => by cases z⟩⟩
   refine wr_fn' (wl_cons (wr_fn' (wl_cons ⟨_, _, rfl, _, rfl, wl_nil (ht.mono fun s y hs => ?_)⟩)))
   subst hs
   refine ⟨⟨_, rfl⟩, _, rfl, wl_cons ⟨_, _, rfl, _, rfl, wl_nil ((SameD.int 5 0).wr.mono fun s y hs => ?_)⟩⟩
   subst hs
   refine ⟨⟨_, rfl⟩, _, rfl, ?_, rfl⟩
   rw [List.replicate_succ', List.map_append]
   rfl
  ·rintro acc ρ2 ⟨rfl, rfl⟩
   exact ⟨_, rfl, _, all_bls _, by simp⟩
theorem holds (ns : List Int) (_ : ns.length ≤ 63) : ∃ ρ, K67.m_law [.v (.scr (ns.map D.int))] = .ok (.v (.bl true), ρ) := by
 obtain ⟨s, ρ, e, hs⟩ := law_wr ns
 exact ⟨ρ, by rw [e, hs]⟩
end K67
theorem PySem.Challenge.cw_softcage_k67_deeds_written_and_read_holds : PySem.Challenge.rw_softcage_k67_deeds_written_and_read.Holds := by
 exact PySem.Challenge.cw_softcage_k67_deeds_written_and_read_head fun {l} {q} {loose} {XP} {YP} {d} {K} => K67.walk K67.holds
